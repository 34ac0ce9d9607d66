import PyProof.Rows.All
import Wide.All
import OpenK.AllK
import Wide.FinOn
import HandS.ForMost
import HandS.Wide
import HandS.Style
import HandS.Flow
import HandS.Star
import HandS.IsInst
import HandS.Defaults
import HandS.Head0
import HandS.Head1
import HandS.Head2
import HandS.HeadEnd
import HandS.HeadHook1
import HandS.HeadHook2
import KE.IntTextLaws
import PySem.Challenge.RW_neighbourkeys_k02_numbers
set_option Elab.async false
set_option linter.all false
set_option maxRecDepth 100000
set_option maxHeartbeats 2000000
/-! The core language: values as trees, slots, an interpreter. -/
namespace NK
open PySem L2

inductive D where
  | non
  | bl (b : Bool)
  | int (i : Int)
  | str (s : Str)
  | tup (l : List D)
  | lst (l : List D)
  | scr (l : List Int)
  deriving Inhabited

inductive Sl where
  | no
  | val (d : D)
  | own (l : List D)
  deriving Inhabited

inductive R where
  | val (d : D)
  | own (l : List D)
  deriving Inhabited

@[simp] def R.d : R → D
  | .val d => d
  | .own l => .lst l
@[simp] def R.sl : R → Sl
  | .val d => .val d
  | .own l => .own l

structure Er where
  c : Nat
  fs : List D

inductive Res (α : Type) where
  | ok (a : α)
  | err (e : Er)
  | bad

def Res.bind {α β : Type} (r : Res α) (f : α → Res β) : Res β :=
  match r with
  | .ok a => f a
  | .err e => .err e
  | .bad => .bad
def Res.map {α β : Type} (f : α → β) (r : Res α) : Res β := r.bind fun a => .ok (f a)
/-- a condition that must hold, else stuck -/
def need {α : Type} (c : Prop) [Decidable c] (r : Res α) : Res α := if c then r else .bad

@[simp] theorem Res.bind_okE {α β : Type} (a : α) (f : α → Res β) : (Res.ok a).bind f = f a := id rfl
@[simp] theorem Res.bind_errE {α β : Type} (e : Er) (f : α → Res β) : (Res.err e).bind f = .err e := id rfl
@[simp] theorem Res.bind_badE {α β : Type} (f : α → Res β) : Res.bad.bind f = .bad := id rfl
@[simp] theorem Res.map_okE {α β : Type} (a : α) (f : α → β) : (Res.ok a).map f = .ok (f a) := id rfl
@[simp] theorem Res.map_badE {α β : Type} (f : α → β) : Res.bad.map f = .bad := id rfl
@[simp] theorem need_T {α : Type} {i : Decidable True} {r : Res α} : @need α True i r = r := if_pos trivial
theorem need_pos {α : Type} {c : Prop} [Decidable c] {r : Res α} (h : c) : need c r = r := if_pos h
theorem Res.bind_ok {α β : Type} {r : Res α} {f : α → Res β} {b : β} (h : r.bind f = .ok b) : ∃ a, r = .ok a ∧ f a = .ok b := by
  cases r with
  | ok a => exact ⟨a, rfl, h⟩
  | err e => cases h
  | bad => cases h
theorem need_ok {α : Type} {c : Prop} [Decidable c] {r : Res α} {a : α} (h : need c r = .ok a) : c ∧ r = .ok a := by
  unfold need at h
  split at h
  · exact ⟨by assumption, h⟩
  · cases h

inductive BO where
  | add | sub | mul | fdiv | mod | pow
inductive CO where
  | eq | ne | lt | le | gt | ge | isin | notin | is | isnot
/-- builtins called by their names -/
inductive Bi where
  | len | int | all | any | list | tuple | str | bool
/-- builtins of two arguments -/
inductive Bj where
  | min | max
/-- built-in classes that isinstance is asked for -/
inductive Ty where
  | int | str | bool | list | tuple
/-- methods of built-in types -/
inductive Mt where
  | join | split

mutual
inductive CE where
  | var (i : Nat)
  | int (i : Int) | str (s : Str) | bl (b : Bool) | non
  | glo (j : Nat)
  | bin (op : BO) (a b : CE)
  | neg (a : CE)
  | notv (a : CE)
  | andv (a b : CE)
  | orv (a b : CE)
  | cmp (op : CO) (a b : CE)
  | chain (o1 o2 : CO) (a b c : CE)
  | ifx (t : CT) (a b : CE)
  | tup (l : CL)
  | lst (l : CL)
  | idx (a b : CE)
  | sli (a : CE) (lo hi : CP)
  | call (f : Nat) (l : CL)
  | bi (b : Bi) (a : CE)
  | bj (b : Bj) (a b : CE)
  | isi (a : CE) (t : Ty)
  | mt1 (m : Mt) (o a : CE)
  | lc (elt : CE) (i : Nat) (s : CI)
  | lcc (elt : CE) (i : Nat) (s : CI) (t : CT)
inductive CL where
  | nil
  | cons (e : CE) (l : CL)
  | star (e : CE) (l : CL)
/-- tests -/
inductive CT where
  | e (c : CE)
  | cmp (op : CO) (a b : CE)
  | chain (o1 o2 : CO) (a b c : CE)
  | and (a b : CT)
  | or (a b : CT)
  | not (a : CT)
/-- parts of a slice -/
inductive CP where
  | no
  | so (e : CE)
/-- what a for walks -/
inductive CI where
  | e (c : CE)
  | s (c : CE)
  | r1 (a : CE)
  | r2 (a b : CE)
end

mutual
inductive CS where
  | set (i : Nat) (e : CE)
  | sidx (i : Nat) (ix e : CE)
  | app (i : Nat) (e : CE)
  | ex (e : CE)
  | ret (e : CE)
  | retv (i : Nat)
  | ret0
  | ite (t : CT) (a b : CB)
  | fr (i : Nat) (s : CI) (b : CB)
  | brk | cnt | pas
inductive CB where
  | nil
  | cons (s : CS) (b : CB)
  | frz (i : Nat) (b : CB)
end

/-! ### operations on trees -/
def smallI (i : Int) : Bool := decide (-(2 ^ 64) < i) && decide (i < 2 ^ 64)
def binD : BO → D → D → Res R
  | .add, .int i, .int j => .ok (.val (.int (i + j)))
  | .add, .str s, .str t => need (s.length + t.length ≤ sizeLine) (.ok (.val (.str (s ++ t))))
  | .add, .lst l, .lst m => need (l.length + m.length ≤ sizeLine) (.ok (.own (l ++ m)))
  | .sub, .int i, .int j => .ok (.val (.int (i - j)))
  | .mul, .int i, .int j => need ((smallI i || smallI j) = true) (.ok (.val (.int (i * j))))
  | .mul, .lst l, .int k => need (-(2 ^ 63) ≤ k ∧ k < 2 ^ 63 ∧ l.length * k.toNat ≤ sizeLine) (.ok (.own (List.replicate k.toNat l).flatten))
  | .fdiv, .int i, .int j => need (0 < j ∧ j.natAbs.log2 < 9000) (.ok (.val (.int (i / j))))
  | .mod, .int i, .int j => need (0 < j) (.ok (.val (.int (i % j))))
  | .pow, .int i, .int j => need (0 ≤ j ∧ j ≤ 1000000 ∧ i.natAbs < 2 ^ 64) (.ok (.val (.int (i ^ j.toNat))))
  | _, _, _ => .bad
def flatD : D → Bool
  | .non => true
  | .bl _ => true
  | .int _ => true
  | .str _ => true
  | _ => false
/-- the flat value of a tree -/
def vOf : D → V
  | .non => .non
  | .bl b => .bl b
  | .int i => .int i
  | .str s => .str s
  | _ => .non
def inD (x : D) (l : List D) : Bool := inV (vOf x) (l.map vOf)
def cmpD : CO → D → D → Res Bool
  | .eq, x, y => need (scal (vOf x) (vOf y) = true ∧ flatD x = true ∧ flatD y = true) (.ok (decide (vOf x = vOf y)))
  | .ne, x, y => need (scal (vOf x) (vOf y) = true ∧ flatD x = true ∧ flatD y = true) (.ok (!decide (vOf x = vOf y)))
  | .lt, .int i, .int j => .ok (decide (i < j))
  | .le, .int i, .int j => .ok (decide (i ≤ j))
  | .gt, .int i, .int j => .ok (decide (j < i))
  | .ge, .int i, .int j => .ok (decide (j ≤ i))
  | .isin, x, .lst l => need (flatD x = true ∧ l.all flatD = true) (.ok (inD x l))
  | .isin, x, .tup l => need (flatD x = true ∧ l.all flatD = true) (.ok (inD x l))
  | .notin, x, .lst l => need (flatD x = true ∧ l.all flatD = true) (.ok (!inD x l))
  | .notin, x, .tup l => need (flatD x = true ∧ l.all flatD = true) (.ok (!inD x l))
  | .isin, .str c, .str z => need (c.cps.size = 1) (.ok (decide (c.cps.getD 0 0 ∈ z.cps.toList)))
  | .notin, .str c, .str z => need (c.cps.size = 1) (.ok (!decide (c.cps.getD 0 0 ∈ z.cps.toList)))
  | .is, x, .non => need (flatD x = true) (.ok (decide (vOf x = .non)))
  | .isnot, x, .non => need (flatD x = true) (.ok (!decide (vOf x = .non)))
  | .is, .bl a, .bl b => .ok (a == b)
  | .isnot, .bl a, .bl b => .ok (!(a == b))
  | _, _, _ => .bad
def truD : D → Res Bool
  | .non => .ok false
  | .bl b => .ok b
  | .int i => .ok (i != 0)
  | .str s => need (s.length ≤ sizeLine) (.ok (s.length != 0))
  | .lst l => .ok (!l.isEmpty)
  | .tup l => .ok (!l.isEmpty)
  | .scr _ => .bad
def chr1 (c : Nat) : Str := ⟨#[c]⟩
def idxD : D → D → Res R
  | .lst l, .int i => match atI l i with
    | some d => .ok (.val d)
    | none => .bad
  | .tup l, .int i => match atI l i with
    | some d => .ok (.val d)
    | none => .bad
  | .scr l, .int i => match atI l i with
    | some d => .ok (.val (.int d))
    | none => .bad
  | .str z, .int i => need (z.length ≤ sizeLine) (match atI z.cps.toList i with
    | some c => .ok (.val (.str (chr1 c)))
    | none => .bad)
  | _, _ => .bad
def cutD (l : List D) (lo hi : Option Int) : List D := (l.drop (HT.sIx l.length 0 lo)).take (HT.sIx l.length l.length hi - HT.sIx l.length 0 lo)
def sliD : D → Option Int → Option Int → Res R
  | .lst l, lo, hi => .ok (.own (cutD l lo hi))
  | .str z, lo, hi => need (z.length ≤ sizeLine) (.ok (.val (.str (cutS z lo hi))))
  | _, _, _ => .bad
def boolsOf : List D → Option (List Bool)
  | [] => some []
  | .bl b :: r => (boolsOf r).map (b :: ·)
  | _ :: _ => none
def strsOf : List D → Option (List Str)
  | [] => some []
  | .str b :: r => (strsOf r).map (b :: ·)
  | _ :: _ => none
def biD : Bi → D → Res R
  | .len, .str z => need (z.length ≤ sizeLine) (.ok (.val (.int z.length)))
  | .len, .lst l => .ok (.val (.int l.length))
  | .len, .tup l => .ok (.val (.int l.length))
  | .len, .scr l => .ok (.val (.int l.length))
  | .int, .int i => .ok (.val (.int i))
  | .int, .bl b => .ok (.val (.int (if b then 1 else 0)))
  | .int, .str z => match PySem.intText? z with
    | some n => need (z.length ≤ 640) (.ok (.val (.int n)))
    | none => .bad
  | .all, .lst l => match boolsOf l with
    | some bs => .ok (.val (.bl (bs.all id)))
    | none => .bad
  | .any, .lst l => match boolsOf l with
    | some bs => .ok (.val (.bl (bs.any id)))
    | none => .bad
  | .list, .lst l => .ok (.own l)
  | .list, .tup l => .ok (.own l)
  | .tuple, .lst l => .ok (.val (.tup l))
  | .tuple, .tup l => .ok (.val (.tup l))
  | _, _ => .bad
def bjD : Bj → D → D → Res R
  | .min, .int i, .int j => .ok (.val (.int (if j < i then j else i)))
  | .max, .int i, .int j => .ok (.val (.int (if j > i then j else i)))
  | _, _, _ => .bad
def isiD : Ty → D → Res R
  | _, .scr _ => .bad
  | .int, .int _ => .ok (.val (.bl true))
  | .int, .bl _ => .ok (.val (.bl true))
  | .int, _ => .ok (.val (.bl false))
  | .str, .str _ => .ok (.val (.bl true))
  | .str, _ => .ok (.val (.bl false))
  | .bool, .bl _ => .ok (.val (.bl true))
  | .bool, _ => .ok (.val (.bl false))
  | .list, .lst _ => .ok (.val (.bl true))
  | .list, _ => .ok (.val (.bl false))
  | .tuple, .tup _ => .ok (.val (.bl true))
  | .tuple, _ => .ok (.val (.bl false))
def mt1D : Mt → D → D → Res R
  | .join, .str a, .lst l => match strsOf l with
    | some ys => need ((ys.map (·.length)).sum + ys.length * a.length ≤ 16777216) (.ok (.val (.str (Txt.join a ys))))
    | none => .bad
  | .split, .str a, .str b => need ((b.length == 0) = false ∧ a.length + 2 ≤ sizeLine) (.ok (.own ((Txt.split a b).map D.str)))
  | _, _, _ => .bad
def rangeD (lo : Int) (n : Nat) : List D := (List.range n).map fun (i : Nat) => .int (lo + (i : Int))
def isInt : D → Option Int
  | .int i => some i
  | _ => none
/-- a comprehension over the items -/
def lcRun (f : D → Res (Option D)) : List D → Res (List D)
  | [] => .ok []
  | d :: r => (f d).bind fun o => (lcRun f r).bind fun l => .ok (match o with | some x => x :: l | none => l)

/-- the tables: module constants, the functions -/
structure Tb where
  cs : List D
  fs : Nat → List D → Res R

/-- a list that is only looked at -/
def pk (Γ : List Sl) (c : CE) (r : Res R) : Res D :=
  match c with
  | .var i => match Γ[i]? with
    | some (.own l) => .ok (.lst l)
    | some (.val d) => .ok d
    | _ => .bad
  | _ => r.map R.d

mutual
def ev (T : Tb) (Γ : List Sl) : CE → Res R
  | .var i => match Γ[i]? with
    | some (.val d) => .ok (.val d)
    | _ => .bad
  | .int i => .ok (.val (.int i))
  | .str s => .ok (.val (.str s))
  | .bl b => .ok (.val (.bl b))
  | .non => .ok (.val .non)
  | .glo j => match T.cs[j]? with
    | some d => .ok (.val d)
    | none => .bad
  | .bin op a b => (pk Γ a (ev T Γ a)).bind fun x => (pk Γ b (ev T Γ b)).bind fun y => binD op x y
  | .neg a => (ev T Γ a).bind fun x => match x with
    | .val (.int i) => .ok (.val (.int (-i)))
    | _ => .bad
  | .notv a => (ev T Γ a).bind fun x => match x with
    | .val (.bl b) => .ok (.val (.bl (!b)))
    | _ => .bad
  | .andv a b => (ev T Γ a).bind fun x => match x with
    | .val (.bl c) => if c then ev T Γ b else .ok (.val (.bl false))
    | _ => .bad
  | .orv a b => (ev T Γ a).bind fun x => match x with
    | .val (.bl c) => if c then .ok (.val (.bl true)) else ev T Γ b
    | _ => .bad
  | .cmp op a b => (pk Γ a (ev T Γ a)).bind fun x => (pk Γ b (ev T Γ b)).bind fun y => (cmpD op x y).bind fun z => .ok (.val (.bl z))
  | .chain o1 o2 a b c => (pk Γ a (ev T Γ a)).bind fun x => (pk Γ b (ev T Γ b)).bind fun y => (cmpD o1 x y).bind fun z =>
      if z then (pk Γ c (ev T Γ c)).bind fun w => (cmpD o2 y w).bind fun z => .ok (.val (.bl z)) else .ok (.val (.bl false))
  | .ifx t a b => (evt T Γ t).bind fun z => if z then ev T Γ a else ev T Γ b
  | .tup l => (evs T Γ l).bind fun ds => need (ds.length ≤ sizeLine) (.ok (.val (.tup ds)))
  | .lst l => (evs T Γ l).bind fun ds => need (ds.length ≤ sizeLine) (.ok (.own ds))
  | .idx a b => (pk Γ a (ev T Γ a)).bind fun x => (pk Γ b (ev T Γ b)).bind fun y => idxD x y
  | .sli a lo hi => (pk Γ a (ev T Γ a)).bind fun x => (evo T Γ lo).bind fun l => (evo T Γ hi).bind fun h => sliD x l h
  | .call f l => (evs T Γ l).bind fun ds => T.fs f ds
  | .bi b a => (pk Γ a (ev T Γ a)).bind fun x => biD b x
  | .bj b x y => (pk Γ x (ev T Γ x)).bind fun u => (pk Γ y (ev T Γ y)).bind fun v => bjD b u v
  | .isi a t => (pk Γ a (ev T Γ a)).bind fun x => isiD t x
  | .mt1 m o a => (pk Γ o (ev T Γ o)).bind fun x => (pk Γ a (ev T Γ a)).bind fun y => mt1D m x y
  | .lc e i s => (evi T Γ s).bind fun ds => (lcRun (fun d => (ev T (Γ.set i (.val d)) e).map fun r => some r.d) ds).bind fun l => need (ds.length ≤ sizeLine) (.ok (.own l))
  | .lcc e i s t => (evi T Γ s).bind fun ds => (lcRun (fun d => (evt T (Γ.set i (.val d)) t).bind fun z => if z then (ev T (Γ.set i (.val d)) e).map fun r => some r.d else .ok none) ds).bind fun l => need (ds.length ≤ sizeLine) (.ok (.own l))
def evs (T : Tb) (Γ : List Sl) : CL → Res (List D)
  | .nil => .ok []
  | .cons e l => (ev T Γ e).bind fun r => (evs T Γ l).bind fun ds => .ok (r.d :: ds)
  | .star e l => (pk Γ e (ev T Γ e)).bind fun x => match x with
    | .lst xs => (evs T Γ l).bind fun ds => .ok (xs ++ ds)
    | .tup xs => (evs T Γ l).bind fun ds => .ok (xs ++ ds)
    | _ => .bad
def evt (T : Tb) (Γ : List Sl) : CT → Res Bool
  | .e c => (pk Γ c (ev T Γ c)).bind truD
  | .cmp op a b => (pk Γ a (ev T Γ a)).bind fun x => (pk Γ b (ev T Γ b)).bind fun y => cmpD op x y
  | .chain o1 o2 a b c => (pk Γ a (ev T Γ a)).bind fun x => (pk Γ b (ev T Γ b)).bind fun y => (cmpD o1 x y).bind fun z =>
      if z then (pk Γ c (ev T Γ c)).bind fun w => cmpD o2 y w else .ok false
  | .and a b => (evt T Γ a).bind fun x => if x then evt T Γ b else .ok false
  | .or a b => (evt T Γ a).bind fun x => if x then .ok true else evt T Γ b
  | .not a => (evt T Γ a).map (!·)
def evo (T : Tb) (Γ : List Sl) : CP → Res (Option Int)
  | .no => .ok none
  | .so e => (ev T Γ e).bind fun r => match r with
    | .val (.int i) => .ok (some i)
    | _ => .bad
/-- the items that a for walks -/
def evi (T : Tb) (Γ : List Sl) : CI → Res (List D)
  | .e c => (ev T Γ c).bind fun r => match r.d with
    | .lst l => .ok l
    | .tup l => .ok l
    | _ => .bad
  | .s c => (ev T Γ c).bind fun r => match r.d with
    | .str z => need (z.length ≤ sizeLine) (.ok (z.cps.toList.map fun c => .str (chr1 c)))
    | _ => .bad
  | .r1 a => (ev T Γ a).bind fun r => match r with
    | .val (.int n) => need (-(2 ^ 62) ≤ n ∧ n < 2 ^ 62) (.ok (rangeD 0 n.toNat))
    | _ => .bad
  | .r2 a b => (ev T Γ a).bind fun r => (ev T Γ b).bind fun q => match r, q with
    | .val (.int lo), .val (.int hi) => need ((-(2 ^ 62) ≤ lo ∧ lo < 2 ^ 62) ∧ (-(2 ^ 62) ≤ hi ∧ hi < 2 ^ 62)) (.ok (rangeD lo (hi - lo).toNat))
    | _, _ => .bad
end

inductive Fl where
  | nx (Γ : List Sl)
  | bk (Γ : List Sl)
  | ct (Γ : List Sl)
  | rt (r : R)

def forRun (f : D → List Sl → Res Fl) : List D → List Sl → Res Fl
  | [], Γ => .ok (.nx Γ)
  | d :: r, Γ => (f d Γ).bind fun x => match x with
    | .nx Γ' => forRun f r Γ'
    | .ct Γ' => forRun f r Γ'
    | .bk Γ' => .ok (.nx Γ')
    | .rt v => .ok (.rt v)

def frzS (Γ : List Sl) (i : Nat) : List Sl := match Γ[i]? with
  | some (.own l) => Γ.set i (.val (.lst l))
  | _ => Γ

mutual
def exec (T : Tb) (Γ : List Sl) : CS → Res Fl
  | .set i e => (ev T Γ e).bind fun r => .ok (.nx (Γ.set i r.sl))
  | .sidx i ix e => (ev T Γ e).bind fun r => (ev T Γ ix).bind fun q => match Γ[i]?, q with
    | some (.own l), .val (.int k) => match ixN l.length k with
      | some j => .ok (.nx (Γ.set i (.own (l.set j r.d))))
      | none => .bad
    | _, _ => .bad
  | .app i e => (ev T Γ e).bind fun r => match Γ[i]? with
    | some (.own l) => need (l.length < sizeLine) (.ok (.nx (Γ.set i (.own (l ++ [r.d])))))
    | _ => .bad
  | .ex e => (ev T Γ e).bind fun _ => .ok (.nx Γ)
  | .ret e => (ev T Γ e).bind fun r => .ok (.rt r)
  | .retv i => match Γ[i]? with
    | some (.own l) => .ok (.rt (.own l))
    | some (.val d) => .ok (.rt (.val d))
    | _ => .bad
  | .ret0 => .ok (.rt (.val .non))
  | .ite t a b => (evt T Γ t).bind fun z => if z then execs T Γ a else execs T Γ b
  | .fr i s b => (evi T Γ s).bind fun ds => forRun (fun d Γ => execs T (Γ.set i (.val d)) b) ds Γ
  | .brk => .ok (.bk Γ)
  | .cnt => .ok (.ct Γ)
  | .pas => .ok (.nx Γ)
def execs (T : Tb) (Γ : List Sl) : CB → Res Fl
  | .nil => .ok (.nx Γ)
  | .cons s b => (exec T Γ s).bind fun x => match x with
    | .nx Γ' => execs T Γ' b
    | y => .ok y
  | .frz i b => execs T (frzS Γ i) b
end

/-- a def's value at its arguments: n names, the parameters first -/
def runD (T : Tb) (n : Nat) (b : CB) (ds : List D) : Res R :=
  (execs T (ds.map Sl.val ++ List.replicate (n - ds.length) .no) b).bind fun x => match x with
    | .rt r => .ok r
    | .nx _ => .ok (.val .non)
    | _ => .bad
end NK

namespace NK
open PySem L2

/-! ### what a tree is in the heap -/
mutual
def Rp (K : PySem.W.Frag) (F : Hp) : D → V → Prop
  | .non, v => v = .non
  | .bl b, v => v = .bl b
  | .int i, v => v = .int i
  | .str s, v => v = .str s
  | .tup l, v => ∃ a vs, v = .ref a ∧ SqT K F a vs ∧ Rps K F l vs
  | .lst l, v => ∃ a vs, v = .ref a ∧ F a = some (.lst vs) ∧ Rps K F l vs
  | .scr l, v => ∃ a, v = .ref a ∧ SqL K F a (l.map V.int)
def Rps (K : PySem.W.Frag) (F : Hp) : List D → List V → Prop
  | [], vs => vs = []
  | d :: ds, vs => ∃ v r, vs = v :: r ∧ Rp K F d v ∧ Rps K F ds r
end
section
variable {K : PySem.W.Frag} {F F' H H' : Hp}
theorem sqT_mono (e : Same F F') {a : Addr} {xs : List V} (h : SqT K F a xs) : SqT K F' a xs := by
  rcases h with (h | ⟨o, h⟩) | h
  · exact .inl (.inl (e _ _ h))
  · exact .inl (.inr ⟨o, e _ _ h⟩)
  · exact .inr h
mutual
theorem Rp.mono (e : Same F F') : ∀ (d : D) {v : V}, Rp K F d v → Rp K F' d v
  | .non, v, h => h
  | .bl b, v, h => h
  | .int i, v, h => h
  | .str s, v, h => h
  | .tup l, v, h => by
    unfold Rp at h ⊢
    obtain ⟨a, vs, h1, h2, h3⟩ := h
    exact ⟨a, vs, h1, sqT_mono e h2, Rps.mono e l h3⟩
  | .lst l, v, h => by
    unfold Rp at h ⊢
    obtain ⟨a, vs, h1, h2, h3⟩ := h
    exact ⟨a, vs, h1, e _ _ h2, Rps.mono e l h3⟩
  | .scr l, v, h => by
    unfold Rp at h ⊢
    obtain ⟨a, h1, h2⟩ := h
    exact ⟨a, h1, e.seq h2⟩
theorem Rps.mono (e : Same F F') : ∀ (l : List D) {vs : List V}, Rps K F l vs → Rps K F' l vs
  | [], vs, h => h
  | d :: ds, vs, h => by
    unfold Rps at h ⊢
    obtain ⟨v, r, h1, h2, h3⟩ := h
    exact ⟨v, r, h1, Rp.mono e d h2, Rps.mono e ds h3⟩
end
theorem Rps.len : ∀ {l : List D} {vs : List V}, Rps K F l vs → vs.length = l.length
  | [], vs, h => by unfold Rps at h; subst h; rfl
  | d :: ds, vs, h => by
    unfold Rps at h
    obtain ⟨v, r, rfl, _, h3⟩ := h
    simp [Rps.len h3]
theorem Rps.app : ∀ {l m : List D} {vs us : List V}, Rps K F l vs → Rps K F m us → Rps K F (l ++ m) (vs ++ us)
  | [], m, vs, us, h, h' => by unfold Rps at h; subst h; exact h'
  | d :: ds, m, vs, us, h, h' => by
    unfold Rps at h
    obtain ⟨v, r, rfl, h2, h3⟩ := h
    show Rps K F (d :: (ds ++ m)) (v :: (r ++ us))
    unfold Rps
    exact ⟨v, r ++ us, rfl, h2, Rps.app h3 h'⟩
theorem Rps.one {d : D} {v : V} (h : Rp K F d v) : Rps K F [d] [v] := by
  unfold Rps
  exact ⟨v, [], rfl, h, by unfold Rps; rfl⟩
theorem Rps.nil' : Rps K F [] [] := by unfold Rps; rfl
theorem Rps.cons' {d : D} {v : V} {l : List D} {vs : List V} (h : Rp K F d v) (t : Rps K F l vs) : Rps K F (d :: l) (v :: vs) := by
  unfold Rps
  exact ⟨v, vs, rfl, h, t⟩
theorem Rps.get : ∀ {l : List D} {vs : List V} {i : Nat} {d : D}, Rps K F l vs → l[i]? = some d → ∃ v, vs[i]? = some v ∧ Rp K F d v
  | [], vs, i, d, h, e => by simp at e
  | x :: xs, vs, 0, d, h, e => by
    unfold Rps at h
    obtain ⟨v, r, rfl, h2, h3⟩ := h
    simp at e; subst e
    exact ⟨v, rfl, h2⟩
  | x :: xs, vs, i + 1, d, h, e => by
    unfold Rps at h
    obtain ⟨v, r, rfl, h2, h3⟩ := h
    simp at e
    obtain ⟨u, h4, h5⟩ := Rps.get (i := i) h3 e
    exact ⟨u, by simpa using h4, h5⟩
theorem Rps.get' : ∀ {l : List D} {vs : List V} {i : Nat} {v : V}, Rps K F l vs → vs[i]? = some v → ∃ d, l[i]? = some d ∧ Rp K F d v := by
  intro l vs i v h e
  have hl := h.len
  have hi : i < vs.length := (List.getElem?_eq_some_iff.mp e).1
  have : ∃ d, l[i]? = some d := ⟨l[i]'(by omega), List.getElem?_eq_getElem _⟩
  obtain ⟨d, hd⟩ := this
  obtain ⟨u, h4, h5⟩ := h.get hd
  rw [e] at h4; cases h4
  exact ⟨d, hd, h5⟩
theorem Rps.take : ∀ {l : List D} {vs : List V} (n : Nat), Rps K F l vs → Rps K F (l.take n) (vs.take n)
  | l, vs, 0, h => by simp; exact Rps.nil'
  | [], vs, n + 1, h => by unfold Rps at h; subst h; simp; exact Rps.nil'
  | d :: ds, vs, n + 1, h => by
    unfold Rps at h
    obtain ⟨v, r, rfl, h2, h3⟩ := h
    exact Rps.cons' h2 (Rps.take n h3)
theorem Rps.drop : ∀ {l : List D} {vs : List V} (n : Nat), Rps K F l vs → Rps K F (l.drop n) (vs.drop n)
  | l, vs, 0, h => by simpa using h
  | [], vs, n + 1, h => by unfold Rps at h; subst h; simp; exact Rps.nil'
  | d :: ds, vs, n + 1, h => by
    unfold Rps at h
    obtain ⟨v, r, rfl, h2, h3⟩ := h
    exact Rps.drop n h3
theorem Rps.set {d : D} {v : V} (hd : Rp K F d v) : ∀ {l : List D} {vs : List V} (n : Nat), Rps K F l vs → Rps K F (l.set n d) (vs.set n v)
  | [], vs, n, h => by unfold Rps at h; subst h; simp; exact Rps.nil'
  | x :: xs, vs, 0, h => by
    unfold Rps at h
    obtain ⟨u, r, rfl, h2, h3⟩ := h
    exact Rps.cons' hd h3
  | x :: xs, vs, n + 1, h => by
    unfold Rps at h
    obtain ⟨u, r, rfl, h2, h3⟩ := h
    exact Rps.cons' h2 (Rps.set hd n h3)
theorem Rps.rep {l : List D} {vs : List V} (h : Rps K F l vs) : ∀ n : Nat, Rps K F (List.replicate n l).flatten (List.replicate n vs).flatten
  | 0 => by simp; exact Rps.nil'
  | n + 1 => by
    simp only [List.replicate_succ, List.flatten_cons]
    exact h.app (Rps.rep h n)
theorem Rp.flat {d : D} {v : V} (h : Rp K F d v) (f : flatD d = true) : v = vOf d ∧ flatV v = true := by
  cases d <;> first | (unfold Rp at h; subst h; exact ⟨rfl, rfl⟩) | (simp [flatD] at f)
theorem Rps.flat : ∀ {l : List D} {vs : List V}, Rps K F l vs → l.all flatD = true → vs = l.map vOf ∧ vs.all flatV = true
  | [], vs, h, _ => by unfold Rps at h; subst h; exact ⟨rfl, rfl⟩
  | d :: ds, vs, h, f => by
    unfold Rps at h
    obtain ⟨v, r, rfl, h2, h3⟩ := h
    simp only [List.all_cons, Bool.and_eq_true] at f
    obtain ⟨e1, e2⟩ := h2.flat f.1
    obtain ⟨e3, e4⟩ := Rps.flat h3 f.2
    refine ⟨by rw [List.map_cons, ← e1, ← e3], ?_⟩
    simp [e2, e4]
theorem Rps.bools : ∀ {l : List D} {vs : List V} {bs : List Bool}, Rps K F l vs → boolsOf l = some bs → vs = bs.map V.bl
  | [], vs, bs, h, e => by
    unfold Rps at h; subst h
    unfold boolsOf at e; cases e; rfl
  | d :: ds, vs, bs, h, e => by
    unfold Rps at h
    obtain ⟨v, r, rfl, h2, h3⟩ := h
    cases d with
    | bl b =>
      unfold boolsOf at e
      simp only [Option.map_eq_some_iff] at e
      obtain ⟨bs', e1, rfl⟩ := e
      unfold Rp at h2
      subst h2
      rw [Rps.bools h3 e1]
      rfl
    | _ => unfold boolsOf at e; cases e
theorem Rps.strs : ∀ {l : List D} {vs : List V} {ss : List Str}, Rps K F l vs → strsOf l = some ss → vs = ss.map V.str
  | [], vs, bs, h, e => by
    unfold Rps at h; subst h
    unfold strsOf at e; cases e; rfl
  | d :: ds, vs, bs, h, e => by
    unfold Rps at h
    obtain ⟨v, r, rfl, h2, h3⟩ := h
    cases d with
    | str b =>
      unfold strsOf at e
      simp only [Option.map_eq_some_iff] at e
      obtain ⟨bs', e1, rfl⟩ := e
      unfold Rp at h2
      subst h2
      rw [Rps.strs h3 e1]
      rfl
    | _ => unfold strsOf at e; cases e
theorem Rps.strs_of : ∀ {ss : List Str}, Rps K F (ss.map D.str) (ss.map V.str)
  | [] => Rps.nil'
  | s :: r => Rps.cons' (by unfold Rp; rfl) Rps.strs_of

/-! ### the two heaps grow -/
/-- F: what is settled; H: all that is tracked -/
structure Grow (F H F' H' : Hp) : Prop where
  h : Same H H'
  f : Same F F'
  fh : Same F' H'
  new : ∀ a o, F' a = some o → F a = some o ∨ H a = none
theorem Grow.refl (e : Same F H) : Grow F H F H := ⟨Same.refl _, Same.refl _, e, fun _ _ h => .inl h⟩
theorem Grow.trans {F2 H2 : Hp} (a : Grow F H F' H') (b : Grow F' H' F2 H2) : Grow F H F2 H2 :=
  ⟨a.h.trans b.h, a.f.trans b.f, b.fh, fun c o q => by
    rcases b.new c o q with q | q
    · exact a.new c o q
    · exact .inr (a.h.free q)⟩
/-- a new settled object -/
theorem Grow.both (e : Same F H) {p : Addr} (hp : H p = none) (o : HO) : Grow F H (upd F p o) (upd H p o) := by
  have fp : F p = none := e.free hp
  refine ⟨fun b u q => by rw [upd_ne (ne_of_none q hp)]; exact q, fun b u q => by rw [upd_ne (ne_of_none q fp)]; exact q, fun b u q => ?_, fun b u q => ?_⟩
  · by_cases hb : b = p
    · subst hb; rw [upd_same] at q ⊢; exact q
    · rw [upd_ne hb] at q ⊢; exact e _ _ q
  · by_cases hb : b = p
    · subst hb; exact .inr hp
    · rw [upd_ne hb] at q; exact .inl q
/-- a new object that is not settled -/
theorem Grow.new1 (e : Same F H) {p : Addr} (hp : H p = none) (o : HO) : Grow F H F (upd H p o) :=
  ⟨fun b u q => by rw [upd_ne (ne_of_none q hp)]; exact q, Same.refl _, fun b u q => by rw [upd_ne (ne_of_none (e _ _ q) hp)]; exact e _ _ q, fun _ _ q => .inl q⟩
/-- a new object is settled -/
theorem Grow.settle {F2 H2 : Hp} (g : Grow F H F2 H2) {p : Addr} {o : HO} (h0 : H p = none) (h2 : H2 p = some o) (f2 : F2 p = none) : Grow F H (upd F2 p o) H2 :=
  ⟨g.h, fun b u q => by rw [upd_ne (ne_of_none (g.f _ _ q) f2)]; exact g.f _ _ q, fun b u q => by
    by_cases hb : b = p
    · subst hb; rw [upd_same] at q; cases q; exact h2
    · rw [upd_ne hb] at q; exact g.fh _ _ q, fun b u q => by
    by_cases hb : b = p
    · subst hb; exact .inr h0
    · rw [upd_ne hb] at q; exact g.new _ _ q⟩
theorem same_upd {p : Addr} {o : HO} (fp : F p = none) : Same F (upd F p o) := fun b u q => by rw [upd_ne (ne_of_none q fp)]; exact q

/-- looked at: a list may be one that is still being filled -/
def RpP (K : PySem.W.Frag) (F H : Hp) : D → V → Prop
  | .lst l, v => ∃ a vs, v = .ref a ∧ H a = some (.lst vs) ∧ Rps K F l vs
  | d, v => Rp K F d v
theorem Rp.peek (e : Same F H) : ∀ {d : D} {v : V}, Rp K F d v → RpP K F H d v
  | .lst l, v, h => by unfold Rp at h; obtain ⟨a, vs, h1, h2, h3⟩ := h; exact ⟨a, vs, h1, e _ _ h2, h3⟩
  | .non, v, h => h
  | .bl b, v, h => h
  | .int i, v, h => h
  | .str s, v, h => h
  | .tup l, v, h => h
  | .scr l, v, h => h
theorem RpP.mono (eF : Same F F') (eH : Same H H') : ∀ {d : D} {v : V}, RpP K F H d v → RpP K F' H' d v
  | .lst l, v, h => by obtain ⟨a, vs, h1, h2, h3⟩ := h; exact ⟨a, vs, h1, eH _ _ h2, Rps.mono eF _ h3⟩
  | .non, v, h => h
  | .bl b, v, h => h
  | .int i, v, h => h
  | .str s, v, h => h
  | .tup l, v, h => Rp.mono eF (.tup l) h
  | .scr l, v, h => Rp.mono eF (.scr l) h
/-- an expression's value: settled, or a new list of nobody else's -/
def RpR (K : PySem.W.Frag) (H F' H' : Hp) : R → V → Prop
  | .val d, v => Rp K F' d v
  | .own l, v => ∃ p vs, v = .ref p ∧ H p = none ∧ F' p = none ∧ H' p = some (.lst vs) ∧ Rps K F' l vs
def PoE (K : PySem.W.Frag) (F H : Hp) (r : R) : VK := fun v H' => ∃ F', Grow F H F' H' ∧ RpR K H F' H' r v
def PoP (K : PySem.W.Frag) (F H : Hp) (d : D) : VK := fun v H' => ∃ F', Grow F H F' H' ∧ RpP K F' H' d v
def PoV (K : PySem.W.Frag) (F H : Hp) (d : D) : VK := fun v H' => ∃ F', Grow F H F' H' ∧ Rp K F' d v
theorem PoE.peek {r : R} {v : V} (h : PoE K F H r v H') : PoP K F H r.d v H' := by
  obtain ⟨F', g, h⟩ := h
  cases r with
  | val d => exact ⟨F', g, Rp.peek g.fh h⟩
  | own l => obtain ⟨p, vs, h1, h2, h3, h4, h5⟩ := h; exact ⟨F', g, p, vs, h1, h4, h5⟩
theorem PoE.val {r : R} {v : V} (h : PoE K F H r v H') : PoV K F H r.d v H' := by
  obtain ⟨F', g, h⟩ := h
  cases r with
  | val d => exact ⟨F', g, h⟩
  | own l =>
    obtain ⟨p, vs, h1, h2, h3, h4, h5⟩ := h
    refine ⟨upd F' p (.lst vs), g.settle h2 h4 h3, ?_⟩
    show Rp K _ (.lst l) v
    unfold Rp
    exact ⟨p, vs, h1, upd_same, Rps.mono (same_upd h3) _ h5⟩
theorem PoE.of_val {d : D} {v : V} (h : PoV K F H d v H') : PoE K F H (.val d) v H' := h
/-- a later post, seen from an earlier start -/
theorem PoE.back {F1 H1 : Hp} {r : R} {v : V} (g : Grow F H F1 H1) (h : PoE K F1 H1 r v H') : PoE K F H r v H' := by
  obtain ⟨F', g', h⟩ := h
  refine ⟨F', g.trans g', ?_⟩
  cases r with
  | val d => exact h
  | own l => obtain ⟨p, vs, h1, h2, h3, h4, h5⟩ := h; exact ⟨p, vs, h1, g.h.free h2, h3, h4, h5⟩
theorem PoP.back {F1 H1 : Hp} {d : D} {v : V} (g : Grow F H F1 H1) (h : PoP K F1 H1 d v H') : PoP K F H d v H' := by
  obtain ⟨F', g', h⟩ := h
  exact ⟨F', g.trans g', h⟩
end

/-! ### slots -/
def SlV (K : PySem.W.Frag) (F H : Hp) : Sl → Option V → Prop
  | .no, _ => True
  | .val d, o => ∃ v, o = some v ∧ Rp K F d v
  | .own l, o => ∃ p vs, o = some (.ref p) ∧ H p = some (.lst vs) ∧ F p = none ∧ Rps K F l vs
structure Rel (K : PySem.W.Frag) (Γ : List Sl) (σ : St) (F H : Hp) : Prop where
  sub : Same F H
  len : Γ.length = σ.length
  at_ : ∀ (i : Nat) (s : Sl), Γ[i]? = some s → ∃ o, σ[i]? = some o ∧ SlV K F H s o
  dis : ∀ (i j : Nat) (l m : List D) (p : Addr), Γ[i]? = some (.own l) → Γ[j]? = some (.own m) → σ[i]? = some (some (.ref p)) → σ[j]? = some (some (.ref p)) → i = j
section
variable {K : PySem.W.Frag} {F F' H H' : Hp} {Γ : List Sl} {σ : St}
theorem Rel.grow (r : Rel K Γ σ F H) (g : Grow F H F' H') : Rel K Γ σ F' H' := by
  refine ⟨g.fh, r.len, fun i s e => ?_, r.dis⟩
  obtain ⟨o, h1, h2⟩ := r.at_ i s e
  refine ⟨o, h1, ?_⟩
  cases s with
  | no => trivial
  | val d => obtain ⟨v, h3, h4⟩ := h2; exact ⟨v, h3, Rp.mono g.f _ h4⟩
  | own l =>
    obtain ⟨p, vs, h3, h4, h5, h6⟩ := h2
    refine ⟨p, vs, h3, g.h _ _ h4, ?_, Rps.mono g.f _ h6⟩
    cases q : F' p with
    | none => rfl
    | some o' =>
      rcases g.new _ _ q with z | z
      · rw [h5] at z; cases z
      · rw [h4] at z; cases z
/-- a slot gets a settled value -/
theorem Rel.setv (r : Rel K Γ σ F H) {i : Nat} {d : D} {v : V} (h : Rp K F d v) : Rel K (Γ.set i (.val d)) (σ.set i (some v)) F H := by
  refine ⟨r.sub, by simp [r.len], fun j s e => ?_, fun j k l m p e1 e2 e3 e4 => ?_⟩
  · by_cases hj : i = j
    · subst hj
      have hi : i < Γ.length := by
        have := (List.getElem?_eq_some_iff.mp e).1
        simpa using this
      rw [List.getElem?_set_self hi] at e
      cases e
      exact ⟨some v, List.getElem?_set_self (by rw [← r.len]; exact hi), v, rfl, h⟩
    · rw [List.getElem?_set_ne hj] at e
      obtain ⟨o, h1, h2⟩ := r.at_ j s e
      exact ⟨o, by rw [List.getElem?_set_ne hj]; exact h1, h2⟩
  · have nj : i ≠ j := fun z => by
      subst z
      have hi : i < Γ.length := by
        have := (List.getElem?_eq_some_iff.mp e1).1
        simpa using this
      rw [List.getElem?_set_self hi] at e1; cases e1
    have nk : i ≠ k := fun z => by
      subst z
      have hi : i < Γ.length := by
        have := (List.getElem?_eq_some_iff.mp e2).1
        simpa using this
      rw [List.getElem?_set_self hi] at e2; cases e2
    rw [List.getElem?_set_ne nj] at e1 e3
    rw [List.getElem?_set_ne nk] at e2 e4
    exact r.dis j k l m p e1 e2 e3 e4
end

/-! ### the weakest readings -/
def WE (X : Cx) (e : Expr) : TE := fun σ H Q => ∀ (pins : List (Addr × Obj)) (s : Shared), Inv X pins σ H s → wpAny (model X.prog X.w) X.A (eval e X.env) (EP X pins σ Q) X.xe s
def WT (X : Cx) (e : Expr) : TT := fun σ H Q => ∀ (pins : List (Addr × Obj)) (s : Shared), Inv X pins σ H s → wpAny (model X.prog X.w) X.A (isTrue e X.env (eval e X.env)) (TP X pins σ Q) X.xe s
def WW (X : Cx) (e : Expr) : TT := fun σ H Q => ∀ (whole : Sem Value) (pins : List (Addr × Obj)) (s : Shared), Inv X pins σ H s → wpAny (model X.prog X.w) X.A (isTrue e X.env whole) (TP X pins σ Q) X.xe s
def WA (X : Cx) (es : List Expr) : TA := fun σ H Q => ∀ (pos : Pos) (pins : List (Addr × Obj)) (s : Shared), Inv X pins σ H s → wpAny (model X.prog X.w) X.A (spliced (backTo pos (starEach es X.env))) (AP X pins σ Q) X.xe s
def WS (X : Cx) (st : Stmt) : TS := fun D σ H => ∀ (pins : List (Addr × Obj)) (s : Shared), Inv X pins σ H s → wpAny (model X.prog X.w) X.A (PySem.exec st X.env) (SP X pins D) X.xe s
def WB (X : Cx) (st : List Stmt) : TS := fun D σ H => ∀ (pins : List (Addr × Obj)) (s : Shared), Inv X pins σ H s → wpAny (model X.prog X.w) X.A (PySem.execs st X.env) (SP X pins D) X.xe s
section
variable {X : Cx} {e : Expr} {es : List Expr} {st : Stmt} {sts : List Stmt} {σ : St} {H : Hp}
theorem WE.pe : PE X e (WE X e) := ⟨fun pins s _ _ _ I h => h pins s I⟩
theorem WT.pt : PT X e (WT X e) := ⟨fun pins s _ _ _ I h => h pins s I⟩
theorem WW.pw : PW X e (WW X e) := ⟨fun wh pins s _ _ _ I h => h wh pins s I⟩
theorem WA.pa : PA X es (WA X es) := ⟨fun pos pins s _ _ _ I h => h pos pins s I⟩
theorem WS.ps : PS X st (WS X st) := ⟨fun pins s _ _ _ I h => h pins s I⟩
theorem WB.pss : PSs X sts (WB X sts) := ⟨fun pins s _ _ _ I h => h pins s I⟩
theorem WE.of {t : TE} {Q : VK} (h : PE X e t) (q : t σ H Q) : WE X e σ H Q := fun pins s I => h.run pins s σ H Q I q
theorem WT.of {t : TT} {Q : Bool → Hp → Prop} (h : PT X e t) (q : t σ H Q) : WT X e σ H Q := fun pins s I => h.run pins s σ H Q I q
theorem WW.of {t : TT} {Q : Bool → Hp → Prop} (h : PW X e t) (q : t σ H Q) : WW X e σ H Q := fun wh pins s I => h.run wh pins s σ H Q I q
theorem WA.of {t : TA} {Q : List V → Hp → Prop} (h : PA X es t) (q : t σ H Q) : WA X es σ H Q := fun pos pins s I => h.run pos pins s σ H Q I q
theorem WS.of {t : TS} {D : Ends} (h : PS X st t) (q : t D σ H) : WS X st D σ H := fun pins s I => h.run pins s σ H D I q
theorem WB.of {t : TS} {D : Ends} (h : PSs X sts t) (q : t D σ H) : WB X sts D σ H := fun pins s I => h.run pins s σ H D I q
theorem WE.mono {Q Q' : VK} (h : WE X e σ H Q) (k : ∀ v H', Q v H' → Q' v H') : WE X e σ H Q' := fun pins s I =>
  thn (h pins s I) fun _ _ ⟨v, H', I', r, q⟩ => ⟨v, H', I', r, k v H' q⟩
theorem WT.mono {Q Q' : Bool → Hp → Prop} (h : WT X e σ H Q) (k : ∀ v H', Q v H' → Q' v H') : WT X e σ H Q' := fun pins s I =>
  thn (h pins s I) fun _ _ ⟨H', I', q⟩ => ⟨H', I', k _ H' q⟩
theorem WA.mono {Q Q' : List V → Hp → Prop} (h : WA X es σ H Q) (k : ∀ v H', Q v H' → Q' v H') : WA X es σ H Q' := fun pos pins s I =>
  thn (h pos pins s I) fun _ _ ⟨v, H', I', r, q⟩ => ⟨v, H', I', r, k v H' q⟩
theorem WS.mono {D D' : Ends} (h : WS X st D σ H) (k1 : ∀ σ' H', D.nx σ' H' → D'.nx σ' H') (k2 : ∀ v H', D.rt v H' → D'.rt v H') (k3 : ∀ σ' H', D.bk σ' H' → D'.bk σ' H') (k4 : ∀ σ' H', D.ct σ' H' → D'.ct σ' H') : WS X st D' σ H := fun pins s I =>
  thn (h pins s I) fun f s' q => by
    cases f with
    | next => obtain ⟨σ', H', I', q⟩ := q; exact ⟨σ', H', I', k1 _ _ q⟩
    | brk => obtain ⟨σ', H', I', q⟩ := q; exact ⟨σ', H', I', k3 _ _ q⟩
    | cont => obtain ⟨σ', H', I', q⟩ := q; exact ⟨σ', H', I', k4 _ _ q⟩
    | ret u => obtain ⟨v, σ', H', I', r, q⟩ := q; exact ⟨v, σ', H', I', r, k2 _ _ q⟩
theorem WB.mono {D D' : Ends} (h : WB X sts D σ H) (k1 : ∀ σ' H', D.nx σ' H' → D'.nx σ' H') (k2 : ∀ v H', D.rt v H' → D'.rt v H') (k3 : ∀ σ' H', D.bk σ' H' → D'.bk σ' H') (k4 : ∀ σ' H', D.ct σ' H' → D'.ct σ' H') : WB X sts D' σ H := fun pins s I =>
  thn (h pins s I) fun f s' q => by
    cases f with
    | next => obtain ⟨σ', H', I', q⟩ := q; exact ⟨σ', H', I', k1 _ _ q⟩
    | brk => obtain ⟨σ', H', I', q⟩ := q; exact ⟨σ', H', I', k3 _ _ q⟩
    | cont => obtain ⟨σ', H', I', q⟩ := q; exact ⟨σ', H', I', k4 _ _ q⟩
    | ret u => obtain ⟨v, σ', H', I', r, q⟩ := q; exact ⟨v, σ', H', I', r, k2 _ _ q⟩
end
end NK

namespace NK
open PySem L2

/-! ### operations by values -/
def bOp : BO → Operator
  | .add => .Add | .sub => .Sub | .mul => .Mult | .fdiv => .FloorDiv | .mod => .Mod | .pow => .Pow
def cOp : CO → CmpOp
  | .eq => .Eq | .ne => .NotEq | .lt => .Lt | .le => .LtE | .gt => .Gt | .ge => .GtE | .isin => .In | .notin => .NotIn | .is => .Is | .isnot => .IsNot
def rBin : BO → R2
  | .add => fun x y H Q => (rI0 (fun i j => .int (i + j)) x y H Q ∨ (∃ i j, x = .str i ∧ y = .str j ∧ i.length + j.length ≤ sizeLine ∧ Q (.str (i ++ j)) H)) ∨ rCat x y H Q
  | .sub => rI0 fun i j => .int (i - j)
  | .mul => fun x y H Q => rI CMul (fun i j => .int (i * j)) x y H Q ∨ rRep x y H Q
  | .fdiv => rI CDivW fun i j => .int (i / j)
  | .mod => rI (fun _ j => 0 < j) fun i j => .int (i % j)
  | .pow => rI CPow fun i j => .int (i ^ j.toNat)
section
variable {X : Cx}
theorem opBin : ∀ op : BO, OpR X (binaryOp (bOp op)) (rBin op)
  | .add => (op_add.or op_add_str).or op_cat
  | .sub => op_sub
  | .mul => op_mul.or op_rep
  | .fdiv => op_fdivW
  | .mod => op_mod
  | .pow => op_pow
def rCmp (K : PySem.W.Frag) : CO → R2
  | .eq => rEq
  | .ne => rNe
  | .lt => rI0 fun i j => .bl (decide (i < j))
  | .le => rI0 fun i j => .bl (decide (i ≤ j))
  | .gt => rI0 fun i j => .bl (decide (j < i))
  | .ge => rI0 fun i j => .bl (decide (j ≤ i))
  | .isin => fun x y H Q => rIn K false x y H Q ∨ ∃ (c : Nat) (z : Str), x = .str ⟨#[c]⟩ ∧ y = .str z ∧ Q (.bl (decide (c ∈ z.cps.toList))) H
  | .notin => fun x y H Q => rIn K true x y H Q ∨ ∃ (c : Nat) (z : Str), x = .str ⟨#[c]⟩ ∧ y = .str z ∧ Q (.bl (!decide (c ∈ z.cps.toList))) H
  | .is => fun x y H Q => (y = .non ∧ Q (.bl (decide (x = .non))) H) ∨ rIsB x y H Q
  | .isnot => fun x y H Q => (y = .non ∧ Q (.bl (!decide (x = .non))) H) ∨ rNotB x y H Q
theorem opCmp : ∀ op : CO, OpR X (compareOp (cOp op)) (rCmp X.K op)
  | .eq => op_eq
  | .ne => op_ne
  | .lt => op_lt
  | .le => op_le
  | .gt => op_gt
  | .ge => op_ge
  | .isin => op_in_seq.or op_in_sign
  | .notin => op_notIn_seq.or op_notIn_sign
  | .is => op_isN.or op_isBl
  | .isnot => op_notN.or op_notBl
end
section
variable {K : PySem.W.Frag} {F H : Hp}
theorem PoE.v (e : Same F H) {d : D} {v : V} (h : Rp K F d v) : PoE K F H (.val d) v H := ⟨F, .refl e, h⟩
theorem PoE.int (e : Same F H) {i : Int} : PoE K F H (.val (.int i)) (.int i) H := .v e (by unfold Rp; rfl)
theorem PoE.bl (e : Same F H) {b : Bool} : PoE K F H (.val (.bl b)) (.bl b) H := .v e (by unfold Rp; rfl)
theorem PoE.str (e : Same F H) {s : Str} : PoE K F H (.val (.str s)) (.str s) H := .v e (by unfold Rp; rfl)
theorem PoE.non (e : Same F H) : PoE K F H (.val .non) .non H := .v e (by unfold Rp; rfl)
theorem PoE.newL (e : Same F H) {l : List D} {vs : List V} (h : Rps K F l vs) (p : Addr) (hp : H p = none) : PoE K F H (.own l) (.ref p) (upd H p (.lst vs)) :=
  ⟨F, .new1 e hp _, p, vs, rfl, hp, e.free hp, upd_same, h⟩
theorem PoE.newT (e : Same F H) {l : List D} {vs : List V} (h : Rps K F l vs) (p : Addr) (hp : H p = none) : PoE K F H (.val (.tup l)) (.ref p) (upd H p (.tup vs)) := by
  refine ⟨upd F p (.tup vs), .both e hp _, ?_⟩
  show Rp K _ (.tup l) _
  unfold Rp
  exact ⟨p, vs, rfl, .of upd_same, Rps.mono (same_upd (e.free hp)) _ h⟩
theorem smallI_iff {i : Int} (h : smallI i = true) : -(2 ^ 64) < i ∧ i < 2 ^ 64 := by
  unfold smallI at h
  simpa using h
theorem bin_ok {Q : VK} {op : BO} {x y : D} {r : R} {v u : V} (h : binD op x y = .ok r) (e : Same F H) (hx : RpP K F H x v) (hy : RpP K F H y u) (k : ∀ v H', PoE K F H r v H' → Q v H') : rBin op v u H Q := by
  unfold binD at h
  split at h <;> first | cases h | skip
  · simp only [RpP, Rp] at hx hy; subst hx hy
    exact .inl (.inl ⟨_, _, rfl, rfl, k _ _ (.int e)⟩)
  · obtain ⟨c, h⟩ := need_ok h; cases h
    simp only [RpP, Rp] at hx hy; subst hx hy
    exact .inl (.inr ⟨_, _, rfl, rfl, c, k _ _ (.str e)⟩)
  · obtain ⟨c, h⟩ := need_ok h; cases h
    obtain ⟨a, vs, rfl, ha, hv⟩ := hx
    obtain ⟨b, us, rfl, hb, hu⟩ := hy
    exact .inr ⟨a, b, vs, us, rfl, rfl, ha, hb, by rw [hv.len, hu.len]; exact c, fun p hp => k _ _ (.newL e (hv.app hu) p hp)⟩
  · simp only [RpP, Rp] at hx hy; subst hx hy
    exact ⟨_, _, rfl, rfl, k _ _ (.int e)⟩
  · obtain ⟨c, h⟩ := need_ok h; cases h
    simp only [RpP, Rp] at hx hy; subst hx hy
    refine .inl ⟨_, _, rfl, rfl, ?_, k _ _ (.int e)⟩
    rcases Bool.or_eq_true _ _ ▸ c with c | c
    · exact .inl (smallI_iff c)
    · exact .inr (smallI_iff c)
  · obtain ⟨c, h⟩ := need_ok h; cases h
    obtain ⟨a, vs, rfl, ha, hv⟩ := hx
    simp only [RpP, Rp] at hy; subst hy
    exact .inr ⟨a, _, vs, rfl, rfl, ha, c.1, c.2.1, by rw [hv.len]; exact c.2.2, fun p hp => k _ _ (.newL e (hv.rep _) p hp)⟩
  · obtain ⟨c, h⟩ := need_ok h; cases h
    simp only [RpP, Rp] at hx hy; subst hx hy
    exact ⟨_, _, rfl, rfl, c, k _ _ (.int e)⟩
  · obtain ⟨c, h⟩ := need_ok h; cases h
    simp only [RpP, Rp] at hx hy; subst hx hy
    exact ⟨_, _, rfl, rfl, c, k _ _ (.int e)⟩
  · obtain ⟨c, h⟩ := need_ok h; cases h
    simp only [RpP, Rp] at hx hy; subst hx hy
    exact ⟨_, _, rfl, rfl, c, k _ _ (.int e)⟩
theorem RpP.flat {d : D} {v : V} (h : RpP K F H d v) (f : flatD d = true) : v = vOf d ∧ flatV v = true := by
  cases d <;> first | (simp only [RpP, Rp] at h; subst h; exact ⟨rfl, rfl⟩) | (simp [flatD] at f)
theorem RpP.seq {l : List D} {v : V} (h : RpP K F H (.lst l) v) : ∃ a vs, v = .ref a ∧ SqL K H a vs ∧ Rps K F l vs := by
  obtain ⟨a, vs, h1, h2, h3⟩ := h
  exact ⟨a, vs, h1, .of h2, h3⟩
theorem RpP.tupl (e : Same F H) {l : List D} {v : V} (h : RpP K F H (.tup l) v) : ∃ a vs, v = .ref a ∧ SqT K H a vs ∧ Rps K F l vs := by
  simp only [RpP, Rp] at h
  obtain ⟨a, vs, h1, h2, h3⟩ := h
  exact ⟨a, vs, h1, sqT_mono e h2, h3⟩
theorem cmp_ok {Q : VK} {op : CO} {x y : D} {z : Bool} {v u : V} (h : cmpD op x y = .ok z) (e : Same F H) (hx : RpP K F H x v) (hy : RpP K F H y u) (k : ∀ v H', PoE K F H (.val (.bl z)) v H' → Q v H') : rCmp K op v u H Q := by
  unfold cmpD at h
  split at h <;> first | cases h | skip
  · obtain ⟨c, h⟩ := need_ok h; cases h
    obtain ⟨rfl, _⟩ := hx.flat c.2.1
    obtain ⟨rfl, _⟩ := hy.flat c.2.2
    exact ⟨c.1, k _ _ (.bl e)⟩
  · obtain ⟨c, h⟩ := need_ok h; cases h
    obtain ⟨rfl, _⟩ := hx.flat c.2.1
    obtain ⟨rfl, _⟩ := hy.flat c.2.2
    exact ⟨c.1, k _ _ (.bl e)⟩
  · simp only [RpP, Rp] at hx hy; subst hx hy
    exact ⟨_, _, rfl, rfl, k _ _ (.bl e)⟩
  · simp only [RpP, Rp] at hx hy; subst hx hy
    exact ⟨_, _, rfl, rfl, k _ _ (.bl e)⟩
  · simp only [RpP, Rp] at hx hy; subst hx hy
    exact ⟨_, _, rfl, rfl, k _ _ (.bl e)⟩
  · simp only [RpP, Rp] at hx hy; subst hx hy
    exact ⟨_, _, rfl, rfl, k _ _ (.bl e)⟩
  · obtain ⟨c, h⟩ := need_ok h; cases h
    obtain ⟨rfl, fx⟩ := hx.flat c.1
    obtain ⟨a, vs, rfl, ha, hv⟩ := hy.seq
    obtain ⟨rfl, fl⟩ := hv.flat c.2
    exact .inl ⟨a, _, rfl, .inl ha, fx, fl, k _ _ (.bl e)⟩
  · obtain ⟨c, h⟩ := need_ok h; cases h
    obtain ⟨rfl, fx⟩ := hx.flat c.1
    obtain ⟨a, vs, rfl, ha, hv⟩ := hy.tupl e
    obtain ⟨rfl, fl⟩ := hv.flat c.2
    exact .inl ⟨a, _, rfl, .inr ha, fx, fl, k _ _ (.bl e)⟩
  · obtain ⟨c, h⟩ := need_ok h; cases h
    obtain ⟨rfl, fx⟩ := hx.flat c.1
    obtain ⟨a, vs, rfl, ha, hv⟩ := hy.seq
    obtain ⟨rfl, fl⟩ := hv.flat c.2
    exact .inl ⟨a, _, rfl, .inl ha, fx, fl, k _ _ (.bl e)⟩
  · obtain ⟨c, h⟩ := need_ok h; cases h
    obtain ⟨rfl, fx⟩ := hx.flat c.1
    obtain ⟨a, vs, rfl, ha, hv⟩ := hy.tupl e
    obtain ⟨rfl, fl⟩ := hv.flat c.2
    exact .inl ⟨a, _, rfl, .inr ha, fx, fl, k _ _ (.bl e)⟩
  · obtain ⟨c, h⟩ := need_ok h; cases h
    simp only [RpP, Rp] at hx hy; subst hx hy
    refine .inr ⟨_, _, ?_, rfl, k _ _ (.bl e)⟩
    rename_i cs _ 
    obtain ⟨⟨l⟩⟩ := cs
    match l, c with
    | [a], _ => rfl
  · obtain ⟨c, h⟩ := need_ok h; cases h
    simp only [RpP, Rp] at hx hy; subst hx hy
    refine .inr ⟨_, _, ?_, rfl, k _ _ (.bl e)⟩
    rename_i cs _ 
    obtain ⟨⟨l⟩⟩ := cs
    match l, c with
    | [a], _ => rfl
  · obtain ⟨c, h⟩ := need_ok h; cases h
    obtain ⟨rfl, _⟩ := hx.flat c
    simp only [RpP, Rp] at hy; subst hy
    exact .inl ⟨rfl, k _ _ (.bl e)⟩
  · obtain ⟨c, h⟩ := need_ok h; cases h
    obtain ⟨rfl, _⟩ := hx.flat c
    simp only [RpP, Rp] at hy; subst hy
    exact .inl ⟨rfl, k _ _ (.bl e)⟩
  · simp only [RpP, Rp] at hx hy; subst hx hy
    refine .inr ⟨_, _, rfl, rfl, ?_⟩
    rw [Bool.beq_eq_decide_eq] at k
    exact k _ _ (.bl e)
  · simp only [RpP, Rp] at hx hy; subst hx hy
    refine .inr ⟨_, _, rfl, rfl, ?_⟩
    rw [Bool.beq_eq_decide_eq] at k
    exact k _ _ (.bl e)
theorem tru_ok' {x : D} {z : Bool} {v : V} (h : truD x = .ok z) (e : Same F H) (hx : RpP K F H x v) : TruV K v H z := by
  cases x with
  | non => cases h; simp only [RpP, Rp] at hx; subst hx; rfl
  | bl b => cases h; simp only [RpP, Rp] at hx; subst hx; rfl
  | int i => cases h; simp only [RpP, Rp] at hx; subst hx; rfl
  | str s =>
    obtain ⟨c, h⟩ := need_ok h; cases h
    simp only [RpP, Rp] at hx; subst hx
    refine ⟨c, ?_⟩
    show (s.length != 0) = ((s.length : Int) != 0)
    cases s.length <;> rfl
  | lst l =>
    cases h
    obtain ⟨a, vs, rfl, ha, hv⟩ := hx.seq
    have hl := hv.len
    refine .inl ⟨vs, ha, ?_⟩
    cases l <;> cases vs <;> first | rfl | simp at hl
  | tup l =>
    cases h
    obtain ⟨a, vs, rfl, ha, hv⟩ := hx.tupl e
    have hl := hv.len
    refine .inr (.inl ⟨vs, ha, ?_⟩)
    cases l <;> cases vs <;> first | rfl | simp at hl
  | scr l => cases h
theorem atI_rps {l : List D} {vs : List V} {i : Int} {d : D} (h : Rps K F l vs) (e : atI l i = some d) : ∃ v, atI vs i = some v ∧ Rp K F d v := by
  unfold atI at e ⊢
  rw [h.len]
  cases q : ixN l.length i with
  | none => rw [q] at e; cases e
  | some j =>
    rw [q] at e
    exact h.get e
def rIdx (K : PySem.W.Frag) : R2 := fun x y H Q => (rIxL K x y H Q ∨ rIxT K x y H Q) ∨ rIxS x y H Q
theorem ixAny {X : Cx} : IxR X (rIdx X.K) := (ix_list.or ix_tup).or ix_str
theorem idx_ok {Q : VK} {x y : D} {r : R} {v u : V} (h : idxD x y = .ok r) (e : Same F H) (hx : RpP K F H x v) (hy : RpP K F H y u) (k : ∀ v H', PoE K F H r v H' → Q v H') : rIdx K v u H Q := by
  unfold idxD at h
  split at h
  · obtain ⟨a, vs, rfl, ha, hv⟩ := hx.seq
    simp only [RpP, Rp] at hy; subst hy
    split at h <;> cases h
    rename_i d hd
    obtain ⟨w, hw, hr⟩ := atI_rps hv hd
    exact .inl (.inl ⟨a, vs, _, w, rfl, rfl, ha, hw, k _ _ (.v e hr)⟩)
  · obtain ⟨a, vs, rfl, ha, hv⟩ := hx.tupl e
    simp only [RpP, Rp] at hy; subst hy
    split at h <;> cases h
    rename_i d hd
    obtain ⟨w, hw, hr⟩ := atI_rps hv hd
    exact .inl (.inr ⟨a, vs, _, w, rfl, rfl, ha, hw, k _ _ (.v e hr)⟩)
  · simp only [RpP, Rp] at hx hy; subst hy
    obtain ⟨a, rfl, ha⟩ := hx
    split at h <;> cases h
    rename_i l i _ d hd
    refine .inl (.inl ⟨a, l.map V.int, _, .int d, rfl, rfl, e.seq ha, ?_, k _ _ (.int e)⟩)
    unfold atI at hd ⊢
    rw [List.length_map]
    cases q : ixN l.length i with
    | none => rw [q] at hd; cases hd
    | some j =>
      rw [q] at hd
      show (l.map V.int)[j]? = _
      rw [List.getElem?_map]
      have hd : l[j]? = some d := hd
      rw [hd]; rfl
  · obtain ⟨c, h⟩ := need_ok h
    simp only [RpP, Rp] at hx hy; subst hx hy
    split at h <;> cases h
    rename_i ch hc
    exact .inr ⟨_, _, ch, rfl, rfl, c, hc, k _ _ (.str e)⟩
  · cases h
theorem cut_rps {l : List D} {vs : List V} (h : Rps K F l vs) (lo hi : Option Int) : Rps K F (cutD l lo hi) (cutV vs lo hi) := by
  unfold cutD cutV
  rw [h.len]
  exact (h.drop _).take _
def rSli (K : PySem.W.Frag) : V → Option Int → Option Int → Hp → VK → Prop := fun x lo hi H Q => rSlL K x lo hi H Q ∨ rSlS x lo hi H Q
theorem slAny {X : Cx} : SlR X (rSli X.K) := sl_list.or sl_str
theorem sli_ok {Q : VK} {x : D} {lo hi : Option Int} {r : R} {v : V} (h : sliD x lo hi = .ok r) (e : Same F H) (hx : RpP K F H x v) (k : ∀ v H', PoE K F H r v H' → Q v H') : rSli K v lo hi H Q := by
  unfold sliD at h
  split at h
  · cases h
    obtain ⟨a, vs, rfl, ha, hv⟩ := hx.seq
    exact .inl ⟨a, vs, rfl, ha, fun p hp => k _ _ (.newL e (cut_rps hv _ _) p hp)⟩
  · obtain ⟨c, h⟩ := need_ok h; cases h
    simp only [RpP, Rp] at hx; subst hx
    exact .inr ⟨_, rfl, c, k _ _ (.str e)⟩
  · cases h
end
end NK

namespace NK
open PySem L2

/-! ### the checker -/
structure Nm where
  N : List Str
  cs : List Str
  fs : List Str
def visB (sc : Scope) (x : Str) : Bool := match sc.names.lookup x with
  | some .local => true
  | some .cell => true
  | some .free => true
  | _ => false
def locB (sc : Scope) (x : Str) : Bool := match sc.names.lookup x with
  | some .local => true
  | some .cell => true
  | _ => false
def glB (sc : Scope) (x : Str) : Bool := match sc.names.lookup x with
  | some .globalImplicit => true
  | _ => false
def nmB (x : Str) : Bool := !(x == ("__debug__" : Str)) && !(x == ("__classdict__" : Str))
def biN : Bi → Str
  | .len => "len" | .int => "int" | .all => "all" | .any => "any" | .list => "list" | .tuple => "tuple" | .str => "str" | .bool => "bool"
def bjN : Bj → Str
  | .min => "min" | .max => "max"
def tyN : Ty → Str
  | .int => "int" | .str => "str" | .bool => "bool" | .list => "list" | .tuple => "tuple"
def tyS : Ty → String
  | .int => "int" | .str => "str" | .bool => "bool" | .list => "list" | .tuple => "tuple"
def mtN : Mt → Str
  | .join => "join" | .split => "split"
def noStar : Expr → Bool
  | .Starred _ _ => false
  | _ => true
def noSlice : Expr → Bool
  | .Slice _ _ _ _ => false
  | _ => true
def noSet : Expr → Bool
  | .Set _ _ _ => false
  | _ => true
def noSuper : Expr → Bool
  | .Call (.Name _ _) [] [] _ => false
  | _ => true
/-- neither a comprehension nor anything that is tested otherwise -/
def plainT : Expr → Bool
  | .UnaryOp .Not _ _ => false
  | .BoolOp _ _ _ => false
  | .IfExp _ _ _ _ => false
  | .Compare _ _ _ _ => false
  | _ => true
mutual
def okE (M : Nm) (sc : Scope) : CE → Expr → Bool
  | .var i, .Name x _ => visB sc x && decide (M.N[i]? = some x) && nmB x
  | .int i, .Constant (.int j) _ _ => decide (i = j)
  | .str s, .Constant (.str t) _ _ => decide (s = t)
  | .bl b, .Constant (.bool c) _ _ => decide (b = c)
  | .non, .Constant .none _ _ => true
  | .glo j, .Name x _ => glB sc x && decide (M.cs[j]? = some x) && nmB x
  | .bin op a b, .BinOp x o y _ => decide (bOp op = o) && okE M sc a x && okE M sc b y
  | .neg a, .UnaryOp .USub x _ => okE M sc a x
  | .notv a, .UnaryOp .Not x _ => okE M sc a x
  | .andv a b, .BoolOp .And [x, y] _ => okE M sc a x && okE M sc b y
  | .andv a b, .BoolOp .And (x :: y :: z :: r) p => okE M sc a x && okE M sc b (.BoolOp .And (y :: z :: r) p)
  | .orv a b, .BoolOp .Or [x, y] _ => okE M sc a x && okE M sc b y
  | .orv a b, .BoolOp .Or (x :: y :: z :: r) p => okE M sc a x && okE M sc b (.BoolOp .Or (y :: z :: r) p)
  | .cmp op a b, .Compare x [o] [y] _ => decide (cOp op = o) && okE M sc a x && okE M sc b y && noSet y
  | .chain o1 o2 a b c, .Compare x [p1, p2] [y, z] _ => decide (cOp o1 = p1) && decide (cOp o2 = p2) && okE M sc a x && okE M sc b y && okE M sc c z && noSet y && noSet z
  | .ifx t a b, .IfExp c x y _ => okT M sc t c && okE M sc a x && okE M sc b y
  | .tup l, .Tuple es _ _ => okL M sc l es
  | .lst l, .List es _ => okL M sc l es
  | .idx a b, .Subscript x y _ => okE M sc a x && okE M sc b y && noSlice y
  | .sli a lo hi, .Subscript x (.Slice l h none _) _ => okE M sc a x && okP M sc lo l && okP M sc hi h
  | .call f l, .Call (.Name x _) es [] _ => glB sc x && decide (M.fs[f]? = some x) && nmB x && okL M sc l es && es.all noStar
  | .bi b a, .Call (.Name x _) [y] [] _ => glB sc x && decide (biN b = x) && okE M sc a y && noStar y
  | .bj b a c, .Call (.Name x _) [y, z] [] _ => glB sc x && decide (bjN b = x) && okE M sc a y && okE M sc c z && noStar y && noStar z
  | .isi a t, .Call (.Name x _) [y, .Name z _] [] _ => glB sc x && decide (("isinstance" : Str) = x) && okE M sc a y && noStar y && glB sc z && decide (tyN t = z)
  | .mt1 m o a, .Call (.Attribute x nm apos) [y] [] pos => decide (mtN m = nm) && okE M sc o x && okE M sc a y && noStar y && noSuper x && (apos.endLine == pos.line)
  | .lc e i s, .ListComp elt [⟨.Name x _, iter, [], as⟩] scope _ => decide (as = 0) && decide (M.N[i]? = some x) && locB scope x && blkC M.N sc scope [(x, i)] && okI M sc s iter && noSet iter && okE M (relS scope sc) e elt
  | .lcc e i s t, .ListComp elt [⟨.Name x _, iter, [c], as⟩] scope _ => decide (as = 0) && decide (M.N[i]? = some x) && locB scope x && blkC M.N sc scope [(x, i)] && okI M sc s iter && noSet iter && okE M (relS scope sc) e elt && okT M (relS scope sc) t c
  | _, _ => false
def okL (M : Nm) (sc : Scope) : CL → List Expr → Bool
  | .nil, [] => true
  | .cons e l, x :: r => okE M sc e x && noStar x && okL M sc l r
  | .star e l, .Starred x _ :: r => okE M sc e x && okL M sc l r
  | _, _ => false
def okT (M : Nm) (sc : Scope) : CT → Expr → Bool
  | .cmp op a b, .Compare x [o] [y] _ => decide (cOp op = o) && okE M sc a x && okE M sc b y && noSet y
  | .chain o1 o2 a b c, .Compare x [p1, p2] [y, z] _ => decide (cOp o1 = p1) && decide (cOp o2 = p2) && okE M sc a x && okE M sc b y && okE M sc c z && noSet y && noSet z
  | .e c, x => plainT x && okE M sc c x
  | .and a b, .BoolOp .And [x, y] _ => okT M sc a x && okT M sc b y
  | .and a b, .BoolOp .And (x :: y :: z :: r) p => okT M sc a x && okT M sc b (.BoolOp .And (y :: z :: r) p)
  | .or a b, .BoolOp .Or [x, y] _ => okT M sc a x && okT M sc b y
  | .or a b, .BoolOp .Or (x :: y :: z :: r) p => okT M sc a x && okT M sc b (.BoolOp .Or (y :: z :: r) p)
  | .not a, .UnaryOp .Not x _ => okT M sc a x
  | _, _ => false
def okP (M : Nm) (sc : Scope) : CP → Option Expr → Bool
  | .no, none => true
  | .so e, some x => okE M sc e x
  | _, _ => false
def okI (M : Nm) (sc : Scope) : CI → Expr → Bool
  | .e c, x => okE M sc c x
  | .s c, x => okE M sc c x
  | .r1 a, .Call (.Name f _) [x] [] _ => glB sc f && decide (("range" : Str) = f) && okE M sc a x && noStar x
  | .r2 a b, .Call (.Name f _) [x, y] [] _ => glB sc f && decide (("range" : Str) = f) && okE M sc a x && okE M sc b y && noStar x && noStar y
  | _, _ => false
end

/-! ### the context -/
def spF (K : PySem.W.Frag) (n : Nat) (φ : List D → Res R) : Sp := fun vs H Q _ => vs.length = n ∧ ∃ F ds r, Same F H ∧ Rps K F ds vs ∧ φ ds = .ok r ∧ ∀ v H', PoE K F H r v H' → Q v H'
def bltNames : List Str := ["len", "int", "all", "any", "list", "tuple", "str", "bool", "range", "min", "max", "isinstance"]
structure Cok (X : Cx) (M : Nm) (T : Tb) (k : Nat) : Prop where
  room : Room k X.A
  nd : X.N.Nodup
  hN : X.N = M.N
  calm : X.calm = true
  kind : X.env.scope.kind = .function
  pass : PassesOwn (model X.prog X.w) X.A X.env X.xe
  glo : ∀ (j : Nat) (x : Str), M.cs[j]? = some x → ∃ d v u, T.cs[j]? = some d ∧ X.mg x = some u ∧ RelV v u ∧ ∀ F, Rp X.K F d v
  fn : ∀ (i : Nat) (x : Str), M.fs[i]? = some x → ∃ f fd ps, (∀ ds r, T.fs i ds = .ok r → ds.length = ps.length) ∧ X.mg x = some (.ref f) ∧ PySem.W.keepIn X.K (.ref f) = true ∧ Binds X.K fd ps [] ∧ FnOk X.prog X.w X.K X.mg X.base CX0 k f fd ps (spF X.K ps.length (T.fs i))
  blt : ∀ x ∈ bltNames, X.mg x = none

/-! ### syntactic facts -/
theorem glB_gl {X : Cx} {x : Str} (h : glB X.env.scope x = true) : Gl X x := by
  unfold glB at h
  split at h
  · assumption
  · cases h
theorem visB_vis {sc : Scope} {x : Str} (h : visB sc x = true) : Vis sc x := by
  unfold visB at h
  split at h
  · exact .inl (by assumption)
  · exact .inr (.inl (by assumption))
  · exact .inr (.inr (by assumption))
  · cases h
theorem locB_loc {sc : Scope} {x : Str} (h : locB sc x = true) : Loc sc x := by
  unfold locB at h
  split at h
  · exact .inl (by assumption)
  · exact .inr (by assumption)
  · cases h
theorem nmB_d {x : Str} (h : nmB x = true) : (x == ("__debug__" : Str)) = false ∧ (x == ("__classdict__" : Str)) = false := by
  unfold nmB at h
  simpa using h
theorem starEach_cons {e : Expr} {es : List Expr} {env : Env} (h : noStar e = true) : starEach (e :: es) env = (false, eval e env) :: starEach es env := by
  cases e <;> first | rfl | (simp [noStar] at h)
theorem any_star {pos : Pos} {env : Env} : ∀ {es : List Expr}, es.all noStar = true → (backTo pos (starEach es env)).any (·.1) = false
  | [], _ => rfl
  | e :: es, h => by
    simp only [List.all_cons, Bool.and_eq_true] at h
    rw [starEach_cons h.1]
    have ih := any_star (pos := pos) (env := env) h.2
    unfold backTo at ih ⊢
    simp only [List.map_cons, List.any_cons, Bool.false_or]
    exact ih
theorem plainIx_of {b : Expr} (h : noSlice b = true) : PlainIx b := by
  intro o i
  cases b <;> first | rfl | (simp [noSlice] at h)
theorem foldedSet_of {e : Expr} {env : Env} (h : noSet e = true) : ∀ x, foldedSetIterable e env x = pure x := by
  intro x
  cases e <;> first | rfl | (simp [noSet] at h)
theorem behind_of {op : CmpOp} {e : Expr} (h : noSet e = true) : behindInMarks op e = false := by
  cases e <;> first | rfl | (simp [noSet] at h)
theorem plainT_of {e : Expr} {env : Env} (h : plainT e = true) : ∀ whole, isTrue e env whole = (do let v ← whole; standAt e.pos; holding [v] (truthy v)) := by
  intro whole
  cases e <;> first | rfl | (simp [plainT] at h) | skip
  rename_i op x pos
  cases op <;> first | rfl | (simp [plainT] at h)
theorem attr_of {o : Expr} {nm : Str} {env : Env} (h : noSuper o = true) : attributeBase o nm env (eval o env) = eval o env := by
  cases o <;> first | rfl | skip
  rename_i f as ks p
  cases f <;> first | rfl | skip
  cases as <;> first | rfl | skip
  cases ks <;> first | rfl | (simp [noSuper] at h)
end NK

namespace NK
open PySem L2

def SndE (X : Cx) (Γ : List Sl) (e : Expr) (r : R) : Prop := ∀ σ F H, Rel X.K Γ σ F H → WE X e σ H (PoE X.K F H r)
def SndP (X : Cx) (Γ : List Sl) (e : Expr) (d : D) : Prop := ∀ σ F H, Rel X.K Γ σ F H → WE X e σ H (PoP X.K F H d)
def SndL (X : Cx) (Γ : List Sl) (es : List Expr) (ds : List D) : Prop := ∀ σ F H, Rel X.K Γ σ F H → WA X es σ H (fun vs H' => ∃ F', Grow F H F' H' ∧ Rps X.K F' ds vs)
def SndT (X : Cx) (Γ : List Sl) (e : Expr) (b : Bool) : Prop := ∀ σ F H, Rel X.K Γ σ F H → WT X e σ H (fun z H' => z = b ∧ ∃ F', Grow F H F' H')
def WO (X : Cx) (e : Option Expr) : TO := fun σ H Q => ∀ (pins : List (Addr × Obj)) (s : Shared), Inv X pins σ H s →
    wpAny (model X.prog X.w) X.A (evalPart e X.env) (fun u s' => ∃ o H', Inv X pins σ H' s' ∧ IsPart u o ∧ Q o H') X.xe s
theorem WO.po {X : Cx} {e : Option Expr} : PO X e (WO X e) := ⟨fun pins s _ _ _ I h => h pins s I⟩
theorem WO.of {X : Cx} {e : Option Expr} {t : TO} {σ : St} {H : Hp} {Q : Option Int → Hp → Prop} (h : PO X e t) (q : t σ H Q) : WO X e σ H Q := fun pins s I => h.run pins s σ H Q I q
theorem WO.mono {X : Cx} {e : Option Expr} {σ : St} {H : Hp} {Q Q' : Option Int → Hp → Prop} (h : WO X e σ H Q) (k : ∀ o H', Q o H' → Q' o H') : WO X e σ H Q' := fun pins s I =>
  thn (h pins s I) fun _ _ ⟨o, H', I', r, q⟩ => ⟨o, H', I', r, k o H' q⟩
def SndO (X : Cx) (Γ : List Sl) (e : Option Expr) (o : Option Int) : Prop := ∀ σ F H, Rel X.K Γ σ F H → WO X e σ H (fun z H' => z = o ∧ ∃ F', Grow F H F' H')
/-- an iterator walks the trees ds -/
def Walks (K : PySem.W.Frag) (J : It) (F : Hp) (ds : List D) : Prop := ∀ (i : Nat) (F' H' : Hp), Same F F' → Same F' H' →
  (∀ d, ds[i]? = some d → J.go i H' ∧ ∀ x H'', J.yld i H' x H'' → ∃ F'', Grow F' H' F'' H'' ∧ Rp K F'' d x) ∧ (i = ds.length → J.stop i H')
def WI (X : Cx) (tg iter : Expr) : TI := fun σ H R => ∀ (pins : List (Addr × Obj)) (s : Shared), Inv X pins σ H s →
  wpAny (model X.prog X.w) X.A (eval iter X.env) (fun v s1 => wpAny (model X.prog X.w) X.A (pyIter v) (PIE X pins σ tg R) X.xe s1) X.xe s
theorem WI.pi {X : Cx} {tg iter : Expr} : PI X tg iter (WI X tg iter) := ⟨fun pins s _ _ _ I h => h pins s I⟩
theorem WI.of {X : Cx} {tg iter : Expr} {wi : TI} {σ : St} {H : Hp} {R : It → Hp → Prop} (h : PI X tg iter wi) (q : wi σ H R) : WI X tg iter σ H R := fun pins s I => h.run pins s σ H R I q
def SndI (X : Cx) (Γ : List Sl) (iter : Expr) (ds : List D) : Prop := ∀ tg σ F H, Rel X.K Γ σ F H → WI X tg iter σ H (fun J H' => ∃ F', Grow F H F' H' ∧ Walks X.K J F' ds)

section
variable {X : Cx} {Γ : List Sl} {M : Nm} {T : Tb} {k : Nat} {a b : Expr} {σ : St} {F H : Hp}
theorem SndE.p {r : R} (h : SndE X Γ a r) : SndP X Γ a r.d := fun σ F H rel => (h σ F H rel).mono fun _ _ q => q.peek
theorem we2 {x y : D} {Rr : V → V → Hp → Prop} (sa : SndP X Γ a x) (sb : SndP X Γ b y) (rel : Rel X.K Γ σ F H)
    (k : ∀ F2 H2 v u, Grow F H F2 H2 → RpP X.K F2 H2 x v → RpP X.K F2 H2 y u → Rr v u H2) : WE X a σ H fun v H1 => WE X b σ H1 fun u H2 => Rr v u H2 := by
  refine (sa σ F H rel).mono fun v H1 ⟨F1, g1, hx⟩ => ?_
  refine (sb σ F1 H1 (rel.grow g1)).mono fun u H2 ⟨F2, g2, hy⟩ => ?_
  exact k F2 H2 v u (g1.trans g2) (hx.mono g2.f g2.h) hy
theorem snd_var {i : Nat} {r : R} {x : Str} {pos : Pos} (hN : X.N[i]? = some x) (hv : Vis X.env.scope x) (h1 : (x == ("__debug__" : Str)) = false) (h2 : (x == ("__classdict__" : Str)) = false) (h : ev T Γ (.var i) = .ok r) : SndE X Γ (.Name x pos) r := by
  intro σ F H rel
  simp only [ev] at h
  split at h <;> cases h
  rename_i d hd
  obtain ⟨o, ho, v, rfl, hr⟩ := rel.at_ _ _ hd
  exact .of (pe_var hN hv h1 h2) ⟨v, ho, F, .refl rel.sub, hr⟩
theorem snd_pk {c : CE} {d : D} {e : Expr} (hN : X.N = M.N) (hok : okE M X.env.scope c e = true) (ih : ∀ r, ev T Γ c = .ok r → SndE X Γ e r) (h : pk Γ c (ev T Γ c) = .ok d) : SndP X Γ e d := by
  unfold pk at h
  split at h
  · rename_i i
    cases e <;> simp only [okE] at hok <;> try cases hok
    rename_i x pos
    simp only [Bool.and_eq_true, decide_eq_true_eq] at hok
    obtain ⟨⟨hv, hi⟩, hn⟩ := hok
    have hn := nmB_d hn
    intro σ F H rel
    split at h <;> cases h
    · rename_i l hl
      obtain ⟨o, ho, p, vs, rfl, h3, h4, h5⟩ := rel.at_ _ _ hl
      exact .of (pe_var (by rw [hN]; exact hi) (visB_vis hv) hn.1 hn.2) ⟨.ref p, ho, F, .refl rel.sub, p, vs, rfl, h3, h5⟩
    · rename_i d hd
      obtain ⟨o, ho, v, rfl, hr⟩ := rel.at_ _ _ hd
      exact .of (pe_var (by rw [hN]; exact hi) (visB_vis hv) hn.1 hn.2) ⟨v, ho, F, .refl rel.sub, hr.peek rel.sub⟩
  · simp only [Res.map] at h
    obtain ⟨r, h1, h2⟩ := Res.bind_ok h
    cases h2
    exact (ih r h1).p
theorem snd_glo (C : Cok X M T k) {j : Nat} {r : R} {x : Str} {pos : Pos} (hg : glB X.env.scope x = true) (hj : M.cs[j]? = some x) (hn : nmB x = true) (h : ev T Γ (.glo j) = .ok r) : SndE X Γ (.Name x pos) r := by
  intro σ F H rel
  obtain ⟨d, v, u, hd, hm, rv, hr⟩ := C.glo j x hj
  simp only [ev, hd] at h
  cases h
  exact .of (pe_glob (glB_gl hg) hm rv (nmB_d hn).1) ⟨F, .refl rel.sub, hr F⟩
theorem snd_bin {op : BO} {x y : D} {r : R} {pos : Pos} (sa : SndP X Γ a x) (sb : SndP X Γ b y) (h : binD op x y = .ok r) : SndE X Γ (.BinOp a (bOp op) b pos) r := by
  intro σ F H rel
  refine .of (pe_op (opBin op) WE.pe WE.pe) ?_
  exact we2 sa sb rel fun F2 H2 v u g hx hy => bin_ok h g.fh hx hy fun v H' q => q.back g
theorem snd_cmp {op : CO} {x y : D} {z : Bool} {pos : Pos} (sa : SndP X Γ a x) (sb : SndP X Γ b y) (h : cmpD op x y = .ok z) (hs : noSet b = true) : SndE X Γ (.Compare a [cOp op] [b] pos) (.val (.bl z)) := by
  intro σ F H rel
  refine .of (pe_cmpR (opCmp op) WE.pe WE.pe (behind_of hs)) ?_
  exact we2 sa sb rel fun F2 H2 v u g hx hy => cmp_ok h g.fh hx hy fun v H' q => q.back g
theorem snd_idx {x y : D} {r : R} {pos : Pos} (sa : SndP X Γ a x) (sb : SndP X Γ b y) (h : idxD x y = .ok r) (hs : noSlice b = true) : SndE X Γ (.Subscript a b pos) r := by
  intro σ F H rel
  refine .of (pe_ix ixAny WE.pe WE.pe (plainIx_of hs)) ?_
  exact we2 sa sb rel fun F2 H2 v u g hx hy => idx_ok h g.fh hx hy fun v H' q => q.back g
theorem RpR.bl_of {H F' H' : Hp} {b : Bool} {v : V} {K : PySem.W.Frag} (h : RpR K H F' H' (.val (.bl b)) v) : v = .bl b := by
  simp only [RpR, Rp] at h; exact h
theorem snd_neg {i : Int} {pos : Pos} (sa : SndE X Γ a (.val (.int i))) : SndE X Γ (.UnaryOp .USub a pos) (.val (.int (-i))) := by
  intro σ F H rel
  refine .of (pe_un un_neg WE.pe) ((sa σ F H rel).mono fun v H1 ⟨F1, g, q⟩ => ?_)
  simp only [RpR, Rp] at q
  exact ⟨i, q, F1, g, by simp only [RpR, Rp]⟩
theorem snd_notv {z : Bool} {pos : Pos} (sa : SndE X Γ a (.val (.bl z))) : SndE X Γ (.UnaryOp .Not a pos) (.val (.bl (!z))) := by
  intro σ F H rel
  refine .of (pe_not WE.pe) ((sa σ F H rel).mono fun v H1 ⟨F1, g, q⟩ => ?_)
  exact ⟨z, q.bl_of, F1, g, by simp only [RpR, Rp]⟩
theorem snd_and {c : Bool} {rest : List Expr} {r : R} {pos : Pos} (sa : SndE X Γ a (.val (.bl c))) (sb : c = true → SndE X Γ (.BoolOp .And (b :: rest) pos) r) (h : c = false → r = .val (.bl false)) : SndE X Γ (.BoolOp .And (a :: b :: rest) pos) r := by
  intro σ F H rel
  refine .of (pe_and WE.pe WE.pe) ((sa σ F H rel).mono fun v H1 ⟨F1, g, q⟩ => ⟨c, q.bl_of, ?_⟩)
  cases c with
  | true =>
    rw [if_pos rfl]
    exact (sb rfl σ F1 H1 (rel.grow g)).mono fun v H' q => q.back g
  | false =>
    rw [if_neg (by decide), h rfl]
    exact ⟨F1, g, by simp only [RpR, Rp]⟩
theorem snd_or {c : Bool} {rest : List Expr} {r : R} {pos : Pos} (sa : SndE X Γ a (.val (.bl c))) (sb : c = false → SndE X Γ (.BoolOp .Or (b :: rest) pos) r) (h : c = true → r = .val (.bl true)) : SndE X Γ (.BoolOp .Or (a :: b :: rest) pos) r := by
  intro σ F H rel
  refine .of (pe_or WE.pe WE.pe) ((sa σ F H rel).mono fun v H1 ⟨F1, g, q⟩ => ⟨c, q.bl_of, ?_⟩)
  cases c with
  | false =>
    rw [if_neg (by decide)]
    exact (sb rfl σ F1 H1 (rel.grow g)).mono fun v H' q => q.back g
  | true =>
    rw [if_pos rfl, h rfl]
    exact ⟨F1, g, by simp only [RpR, Rp]⟩
theorem snd_one {op : BoolOp} {r : R} {pos : Pos} (sa : SndE X Γ a r) : SndE X Γ (.BoolOp op [a] pos) r := fun σ F H rel => .of (pe_one WE.pe) (sa σ F H rel)
theorem snd_chain {o1 o2 : CO} {x y : D} {z : Bool} {c : Expr} {r : R} {pos : Pos} (sa : SndP X Γ a x) (sb : SndP X Γ b y) (h : cmpD o1 x y = .ok z) (hs : noSet c = true)
    (h1 : z = true → ∃ w z', SndP X Γ c w ∧ cmpD o2 y w = .ok z' ∧ r = .val (.bl z')) (h2 : z = false → r = .val (.bl false)) : SndE X Γ (.Compare a [cOp o1, cOp o2] [b, c] pos) r := by
  intro σ F H rel
  refine .of (pe_chain (opCmp o1) (opCmp o2) WE.pe WE.pe WE.pe (by first | exact behind_of hs | rfl)) ?_
  refine we2 sa sb rel fun F2 H2 v u g hx hy => cmp_ok h g.fh hx hy fun v' H3 ⟨F3, g3, q⟩ => ⟨z, q.bl_of, ?_⟩
  cases z with
  | true =>
    rw [if_pos rfl]
    obtain ⟨w, z', sc, hw, rfl⟩ := h1 rfl
    refine (sc σ F3 H3 (rel.grow (g.trans g3))).mono fun u' H4 ⟨F4, g4, hw'⟩ => ?_
    exact cmp_ok hw g4.fh (hy.mono (g3.f.trans g4.f) (g3.h.trans g4.h)) hw' fun v H' q => q.back ((g.trans g3).trans g4)
  | false =>
    rw [if_neg (by decide), h2 rfl]
    exact ⟨F3, g.trans g3, by simp only [RpR, Rp]⟩
theorem snd_ifx {c : Expr} {z : Bool} {r : R} {pos : Pos} (st : SndT X Γ c z) (h1 : z = true → SndE X Γ a r) (h2 : z = false → SndE X Γ b r) : SndE X Γ (.IfExp c a b pos) r := by
  intro σ F H rel
  refine .of (pe_ifExp WT.pt WE.pe WE.pe) ((st σ F H rel).mono fun d H1 ⟨e, F1, g⟩ => ?_)
  subst e
  cases d with
  | true => rw [if_pos rfl]; exact (h1 rfl σ F1 H1 (rel.grow g)).mono fun v H' q => q.back g
  | false => rw [if_neg (by decide)]; exact (h2 rfl σ F1 H1 (rel.grow g)).mono fun v H' q => q.back g
theorem snd_tup {es : List Expr} {ds : List D} {kk : Nat} {pos : Pos} (sl : SndL X Γ es ds) (hz : ds.length ≤ sizeLine) : SndE X Γ (.Tuple es kk pos) (.val (.tup ds)) := by
  intro σ F H rel
  refine .of (pe_tup WA.pa) ((sl σ F H rel).mono fun vs H1 ⟨F1, g, q⟩ => ⟨by rw [q.len]; exact hz, fun p hp => ?_⟩)
  exact (PoE.newT g.fh q p hp).back g
theorem snd_lst {es : List Expr} {ds : List D} {pos : Pos} (sl : SndL X Γ es ds) (hz : ds.length ≤ sizeLine) : SndE X Γ (.List es pos) (.own ds) := by
  intro σ F H rel
  refine .of (pe_lst WA.pa) ((sl σ F H rel).mono fun vs H1 ⟨F1, g, q⟩ => ⟨by rw [q.len]; exact hz, fun p hp => ?_⟩)
  exact (PoE.newL g.fh q p hp).back g
theorem snd_nil : SndL X Γ [] [] := fun σ F H rel => .of pa_nil ⟨F, .refl rel.sub, Rps.nil'⟩
theorem snd_cons {e : Expr} {es : List Expr} {r : R} {ds : List D} (se : SndE X Γ e r) (sl : SndL X Γ es ds) (hs : noStar e = true) : SndL X Γ (e :: es) (r.d :: ds) := by
  intro σ F H rel
  refine .of (pa_cons WE.pe WA.pa (starEach_cons hs)) ((se σ F H rel).mono fun v H1 q => ?_)
  obtain ⟨F1, g1, hv⟩ := q.val
  refine (sl σ F1 H1 (rel.grow g1)).mono fun vs H2 ⟨F2, g2, hvs⟩ => ⟨F2, g1.trans g2, Rps.cons' (Rp.mono g2.f _ hv) hvs⟩
theorem snd_call (C : Cok X M T k) {f : Nat} {x : Str} {es : List Expr} {ds : List D} {r : R} {p pos : Pos} (hg : glB X.env.scope x = true) (hf : M.fs[f]? = some x) (hn : nmB x = true) (sl : SndL X Γ es ds) (hst : es.all noStar = true) (h : T.fs f ds = .ok r) (h0 : es = [] → ds = []) :
    SndE X Γ (.Call (.Name x p) es [] pos) r := by
  intro σ F H rel
  obtain ⟨fa, fd, ps, har, hm, hk, hb, hF⟩ := C.fn f x hf
  have hl := har ds r h
  have key : ∀ F1 H1 vs, Grow F H F1 H1 → Rps X.K F1 ds vs → spF X.K ps.length (T.fs f) (vs ++ []) H1 (PoE X.K F H r) E0 := fun F1 H1 vs g q =>
    ⟨by rw [List.append_nil, q.len]; exact hl, F1, ds, r, g.fh, by rw [List.append_nil]; exact q, h, fun v H' z => z.back g⟩
  cases es with
  | nil =>
    refine .of (pe_call0 hF C.room (glB_gl hg) hm hk hb .nil pass0 (nmB_d hn).1) ?_
    have hds := h0 rfl
    subst hds
    exact key F H [] (.refl rel.sub) Rps.nil'
  | cons e es =>
    simp only [List.all_cons, Bool.and_eq_true] at hst
    refine .of (pe_call hF C.room (glB_gl hg) hm hk hb .nil pass0 WA.pa (nmB_d hn).1 (starEach_cons hst.1) (any_star hst.2)) ?_
    exact (sl σ F H rel).mono fun vs H1 ⟨F1, g, q⟩ => key F1 H1 vs g q
end
end NK

namespace NK
open PySem L2

section
variable {X : Cx} {Γ : List Sl} {M : Nm} {T : Tb} {k : Nat} {a b : Expr} {σ : St} {F H : Hp}
/-- a star -/
theorem snd_star {e : Expr} {es : List Expr} {xs ds : List D} {d : D} {p : Pos} (se : SndP X Γ e d) (hd : d = .lst xs ∨ d = .tup xs) (sl : SndL X Γ es ds) : SndL X Γ (.Starred e p :: es) (xs ++ ds) := by
  intro σ F H rel
  refine .of (StX.pa_star WE.pe WA.pa) ((se σ F H rel).mono fun v H1 ⟨F1, g1, hv⟩ => ?_)
  have key : ∃ a vs, v = .ref a ∧ (SqT X.K H1 a vs ∨ SqL X.K H1 a vs) ∧ Rps X.K F1 xs vs := by
    rcases hd with rfl | rfl
    · obtain ⟨a, vs, e1, e2, e3⟩ := hv.seq; exact ⟨a, vs, e1, .inr e2, e3⟩
    · obtain ⟨a, vs, e1, e2, e3⟩ := hv.tupl g1.fh; exact ⟨a, vs, e1, .inl e2, e3⟩
  obtain ⟨a, vs, e1, e2, e3⟩ := key
  refine ⟨a, vs, e1, e2, ?_⟩
  exact (sl σ F1 H1 (rel.grow g1)).mono fun us H2 ⟨F2, g2, hus⟩ => ⟨F2, g1.trans g2, (Rps.mono g2.f _ e3).app hus⟩
/-- builtins of one argument -/
theorem snd_bi (C : Cok X M T k) {bi : Bi} {x : D} {r : R} {p pos : Pos} (hg : glB X.env.scope (biN bi) = true) (sa : SndP X Γ a x) (hs : noStar a = true) (h : biD bi x = .ok r) : SndE X Γ (.Call (.Name (biN bi) p) [a] [] pos) r := by
  intro σ F H rel
  have se : starEach [a] X.env = (false, eval a X.env) :: starEach [] X.env := starEach_cons hs
  have pa1 : PA X [a] (tCons (WE X a) tNil) := pa_cons WE.pe pa_nil se
  have go : ∀ {rr : List V → Hp → VK → Prop}, (∀ F1 H1 v, Grow F H F1 H1 → RpP X.K F1 H1 x v → rr [v] H1 (PoE X.K F H r)) → tCB rr (tCons (WE X a) tNil) σ H (PoE X.K F H r) := fun hr =>
    (sa σ F H rel).mono fun v H1 ⟨F1, g, hv⟩ => hr F1 H1 v g hv
  have nb : ∀ y ∈ bltNames, X.mg y = none := C.blt
  cases bi with
  | len =>
    refine .of (pe_callB call_len (glB_gl hg) (nb _ (by decide +kernel)) boot_len pa1 (by decide +kernel) (by decide +kernel) se rfl) (go fun F1 H1 v g hv => ?_)
    cases x with
    | str z =>
      obtain ⟨c, h⟩ := need_ok h; cases h
      simp only [RpP, Rp] at hv; subst hv
      exact ⟨_, z.length, rfl, ⟨c, rfl⟩, (PoE.int g.fh).back g⟩
    | lst l =>
      cases h
      obtain ⟨a, vs, rfl, ha, hv⟩ := hv.seq
      refine ⟨_, l.length, rfl, .inl ⟨vs, ha, hv.len.symm⟩, (PoE.int g.fh).back g⟩
    | tup l =>
      cases h
      obtain ⟨a, vs, rfl, ha, hv⟩ := hv.tupl g.fh
      refine ⟨_, l.length, rfl, .inr ⟨vs, ha, hv.len.symm⟩, (PoE.int g.fh).back g⟩
    | scr l =>
      cases h
      simp only [RpP, Rp] at hv
      obtain ⟨a, rfl, ha⟩ := hv
      refine ⟨_, l.length, rfl, .inl ⟨_, g.fh.seq ha, by simp⟩, (PoE.int g.fh).back g⟩
    | _ => cases h
  | int =>
    refine .of (pe_callTy (call_int1.or call_int_str) (glB_gl hg) (nb _ (by decide +kernel)) (by decide +kernel) pa1 (by decide +kernel) (by decide +kernel) se rfl) (go fun F1 H1 v g hv => ?_)
    cases x with
    | int i =>
      cases h
      simp only [RpP, Rp] at hv; subst hv
      exact .inl (.inl ⟨i, rfl, (PoE.int g.fh).back g⟩)
    | bl z =>
      cases h
      simp only [RpP, Rp] at hv; subst hv
      exact .inl (.inr ⟨z, rfl, (PoE.int g.fh).back g⟩)
    | str z =>
      simp only [biD] at h
      split at h <;> try cases h
      rename_i n hn
      obtain ⟨c, h⟩ := need_ok h; cases h
      simp only [RpP, Rp] at hv; subst hv
      exact .inr ⟨z, n, rfl, hn, c, (PoE.int g.fh).back g⟩
    | _ => cases h
  | all =>
    refine .of (pe_callB (cr_all C.calm) (glB_gl hg) (nb _ (by decide +kernel)) (by decide +kernel) pa1 (by decide +kernel) (by decide +kernel) se rfl) (go fun F1 H1 v g hv => ?_)
    cases x with
    | lst l =>
      simp only [biD] at h
      split at h <;> cases h
      rename_i bs hb
      obtain ⟨a, vs, rfl, ha, hv⟩ := hv.seq
      rw [hv.bools hb] at ha
      exact ⟨a, bs, rfl, ha, (PoE.bl g.fh).back g⟩
    | _ => cases h
  | any =>
    refine .of (pe_callB (cr_any C.calm) (glB_gl hg) (nb _ (by decide +kernel)) (by decide +kernel) pa1 (by decide +kernel) (by decide +kernel) se rfl) (go fun F1 H1 v g hv => ?_)
    cases x with
    | lst l =>
      simp only [biD] at h
      split at h <;> cases h
      rename_i bs hb
      obtain ⟨a, vs, rfl, ha, hv⟩ := hv.seq
      rw [hv.bools hb] at ha
      exact ⟨a, bs, rfl, ha, (PoE.bl g.fh).back g⟩
    | _ => cases h
  | list =>
    refine .of (pe_callTy call_list_of (glB_gl hg) (nb _ (by decide +kernel)) (by decide +kernel) pa1 (by decide +kernel) (by decide +kernel) se rfl) (go fun F1 H1 v g hv => ?_)
    cases x with
    | lst l =>
      cases h
      obtain ⟨a, vs, rfl, ha, hv⟩ := hv.seq
      exact ⟨a, vs, rfl, .inl ha, fun p hp => (PoE.newL g.fh hv p hp).back g⟩
    | tup l =>
      cases h
      obtain ⟨a, vs, rfl, ha, hv⟩ := hv.tupl g.fh
      exact ⟨a, vs, rfl, .inr ha, fun p hp => (PoE.newL g.fh hv p hp).back g⟩
    | _ => cases h
  | tuple =>
    refine .of (pe_callTy call_tuple_of (glB_gl hg) (nb _ (by decide +kernel)) (by decide +kernel) pa1 (by decide +kernel) (by decide +kernel) se rfl) (go fun F1 H1 v g hv => ?_)
    cases x with
    | lst l =>
      cases h
      obtain ⟨a, vs, rfl, ha, hv⟩ := hv.seq
      exact ⟨a, vs, rfl, .inl ⟨ha, fun p hp => (PoE.newT g.fh hv p hp).back g⟩⟩
    | tup l =>
      cases h
      have hv' := hv
      obtain ⟨a, vs, rfl, ha, hv⟩ := hv.tupl g.fh
      exact ⟨a, vs, rfl, .inr ⟨ha, F1, g, hv'⟩⟩
    | _ => cases h
  | str => cases x <;> cases h
  | bool => cases x <;> cases h
theorem snd_bj (C : Cok X M T k) {bj : Bj} {x y : D} {r : R} {p pos : Pos} (hg : glB X.env.scope (bjN bj) = true) (sa : SndP X Γ a x) (sb : SndP X Γ b y) (hs : noStar a = true) (hs2 : noStar b = true) (h : bjD bj x y = .ok r) :
    SndE X Γ (.Call (.Name (bjN bj) p) [a, b] [] pos) r := by
  intro σ F H rel
  have sb' : starEach [b] X.env = (false, eval b X.env) :: starEach [] X.env := starEach_cons hs2
  have se : starEach [a, b] X.env = (false, eval a X.env) :: starEach [b] X.env := starEach_cons hs
  have pa2 : PA X [a, b] (tCons (WE X a) (tCons (WE X b) tNil)) := pa_cons WE.pe (pa_cons WE.pe pa_nil sb') se
  have hpl : (backTo pos (starEach [b] X.env)).any (·.1) = false := by rw [sb']; rfl
  have nb : ∀ y ∈ bltNames, X.mg y = none := C.blt
  cases bj with
  | min =>
    cases x with
    | int i =>
      cases y with
      | int j =>
        cases h
        refine .of (pe_callB (call_min2 C.calm) (glB_gl hg) (nb _ (by decide +kernel)) (by decide +kernel) pa2 (by decide +kernel) (by decide +kernel) se hpl) ?_
        exact we2 sa sb rel fun F2 H2 v u g hx hy => by
          simp only [RpP, Rp] at hx hy; subst hx hy
          exact ⟨i, j, rfl, (PoE.int g.fh).back g⟩
      | _ => cases h
    | _ => cases y <;> cases h
  | max =>
    cases x with
    | int i =>
      cases y with
      | int j =>
        cases h
        refine .of (pe_callB (call_max2 C.calm) (glB_gl hg) (nb _ (by decide +kernel)) (by decide +kernel) pa2 (by decide +kernel) (by decide +kernel) se hpl) ?_
        exact we2 sa sb rel fun F2 H2 v u g hx hy => by
          simp only [RpP, Rp] at hx hy; subst hx hy
          exact ⟨i, j, rfl, (PoE.int g.fh).back g⟩
      | _ => cases h
    | _ => cases y <;> cases h
/-- the class of a tree -/
def clsD : D → Option String
  | .non => some "NoneType"
  | .bl _ => some "bool"
  | .int _ => some "int"
  | .str _ => some "str"
  | .tup _ => some "tuple"
  | .lst _ => some "list"
  | .scr _ => none
theorem tyx_of {K : PySem.W.Frag} {F H : Hp} {x : D} {v : V} {n : String} (e : Same F H) (h : RpP K F H x v) (hc : clsD x = some n) : TyX K H v (.type n) := by
  cases x with
  | non => cases hc; simp only [RpP, Rp] at h; subst h; exact .base .non
  | bl b => cases hc; simp only [RpP, Rp] at h; subst h; exact .base (.bl b)
  | int i => cases hc; simp only [RpP, Rp] at h; subst h; exact .base (.int i)
  | str s => cases hc; simp only [RpP, Rp] at h; subst h; exact .base (.str s)
  | lst l => cases hc; obtain ⟨a, vs, rfl, ha, _⟩ := h; exact .base (.lst ha)
  | tup l =>
    cases hc
    obtain ⟨a, vs, rfl, ha, _⟩ := h.tupl e
    rcases ha with (ha | ⟨o, ha⟩) | ⟨o, its, n, hk, hcl, _⟩
    · exact .base (.tup ha)
    · exact .fTuple ha
    · exact .kTuple hk hcl
  | scr l => cases hc
theorem isi_kit {K : PySem.W.Frag} {t : Ty} {x : D} {r : R} (h : isiD t x = .ok r) : ∃ n b, clsD x = some n ∧ r = .val (.bl b) ∧ PySem.W.kitOne K (.type n) (.type (tyS t)) = some b := by
  cases t <;> cases x <;> first | (cases h; exact ⟨_, _, rfl, rfl, kit_ty (by decide +kernel)⟩) | cases h
theorem boot_ty : ∀ t : Ty, bootBuiltins (tyN t) = some (.type (tyS t))
  | .int => by decide +kernel
  | .str => by decide +kernel
  | .bool => by decide +kernel
  | .list => by decide +kernel
  | .tuple => by decide +kernel
theorem tyN_mem : ∀ t : Ty, tyN t ∈ bltNames ∧ tyN t ≠ "__name__" ∧ (tyN t == ("__debug__" : Str)) = false
  | .int => by decide +kernel
  | .str => by decide +kernel
  | .bool => by decide +kernel
  | .list => by decide +kernel
  | .tuple => by decide +kernel
theorem snd_isi (C : Cok X M T k) {t : Ty} {x : D} {r : R} {p pz pos : Pos} (hg : glB X.env.scope "isinstance" = true) (hg2 : glB X.env.scope (tyN t) = true) (sa : SndP X Γ a x) (hs : noStar a = true) (h : isiD t x = .ok r) :
    SndE X Γ (.Call (.Name "isinstance" p) [a, .Name (tyN t) pz] [] pos) r := by
  intro σ F H rel
  obtain ⟨n, b, hc, rfl, hk⟩ := isi_kit (K := X.K) h
  have se : starEach [a, .Name (tyN t) pz] X.env = (false, eval a X.env) :: starEach [.Name (tyN t) pz] X.env := starEach_cons hs
  obtain ⟨m1, m2, m3⟩ := tyN_mem t
  refine .of (pe_callB call_isi (glB_gl hg) (C.blt _ (by decide +kernel)) (by decide +kernel) (pa_cons WE.pe (pa_cons (pe_bltn (v := .ty (tyS t)) (glB_gl hg2) (C.blt _ m1) (boot_ty t) rfl m2 m3) pa_nil) se) (by decide +kernel) (by decide +kernel) se rfl) ?_
  refine (sa σ F H rel).mono fun v H1 ⟨F1, g, hv⟩ => ?_
  exact ⟨v, .ty (tyS t), .type n, .type (tyS t), b, rfl, .ty _, tyx_of g.fh hv hc, hk, (PoE.bl g.fh).back g⟩
theorem snd_mt1 {m : Mt} {x y : D} {r : R} {apos pos : Pos} (sa : SndP X Γ a x) (sb : SndP X Γ b y) (h : mt1D m x y = .ok r) (hs : noStar b = true) (hu : noSuper a = true) (hl : (apos.endLine == pos.line) = true) :
    SndE X Γ (.Call (.Attribute a (mtN m) apos) [b] [] pos) r := by
  intro σ F H rel
  have se : starEach [b] X.env = [(false, eval b X.env)] := starEach_cons hs
  cases m with
  | join =>
    cases x with
    | str z =>
      cases y with
      | lst l =>
        simp only [mt1D] at h
        split at h <;> try cases h
        rename_i ss hss
        obtain ⟨c, h⟩ := need_ok h; cases h
        refine .of (pe_join WE.pe WE.pe se (attr_of hu) hl) ((sa σ F H rel).mono fun v H1 ⟨F1, g1, hv⟩ => ?_)
        simp only [RpP, Rp] at hv; subst hv
        refine ⟨⟨z, rfl⟩, (sb σ F1 H1 (rel.grow g1)).mono fun u H2 ⟨F2, g2, hu⟩ => ?_⟩
        obtain ⟨a, vs, rfl, ha, hv⟩ := hu.seq
        rw [hv.strs hss] at ha
        exact ⟨z, a, ss, rfl, rfl, .inl ha, c, (PoE.str g2.fh).back (g1.trans g2)⟩
      | _ => cases h
    | _ => cases y <;> cases h
  | split =>
    cases x with
    | str z =>
      cases y with
      | str w =>
        obtain ⟨c, h⟩ := need_ok h; cases h
        refine .of (pe_split WE.pe WE.pe se (attr_of hu) hl) ((sa σ F H rel).mono fun v H1 ⟨F1, g1, hv⟩ => ?_)
        simp only [RpP, Rp] at hv; subst hv
        refine ⟨⟨z, rfl⟩, (sb σ F1 H1 (rel.grow g1)).mono fun u H2 ⟨F2, g2, hu⟩ => ?_⟩
        simp only [RpP, Rp] at hu; subst hu
        exact ⟨z, w, rfl, rfl, c.1, c.2, fun p hp => (PoE.newL g2.fh Rps.strs_of p hp).back (g1.trans g2)⟩
      | _ => cases h
    | _ => cases y <;> cases h
theorem snd_sli {x : D} {lo hi : Option Expr} {l u : Option Int} {r : R} {p2 pos : Pos} (sa : SndP X Γ a x) (sl : SndO X Γ lo l) (sh : SndO X Γ hi u) (h : sliD x l u = .ok r) : SndE X Γ (.Subscript a (.Slice lo hi none p2) pos) r := by
  intro σ F H rel
  refine .of (pe_slice slAny WE.pe WO.po WO.po) ((sa σ F H rel).mono fun v H1 ⟨F1, g1, hv⟩ => ?_)
  refine (sl σ F1 H1 (rel.grow g1)).mono fun o1 H2 ⟨e1, F2, g2⟩ => ?_
  refine (sh σ F2 H2 (rel.grow (g1.trans g2))).mono fun o2 H3 ⟨e2, F3, g3⟩ => ?_
  subst e1 e2
  exact sli_ok h g3.fh (hv.mono (g2.f.trans g3.f) (g2.h.trans g3.h)) fun v H' q => q.back ((g1.trans g2).trans g3)
theorem snd_ono : SndO X Γ none none := fun σ F H rel => .of po_none ⟨rfl, F, .refl rel.sub⟩
theorem snd_oso {i : Int} (sa : SndE X Γ a (.val (.int i))) : SndO X Γ (some a) (some i) := fun σ F H rel =>
  .of (po_some WE.pe) ((sa σ F H rel).mono fun v H1 ⟨F1, g1, hv⟩ => by
    simp only [RpR, Rp] at hv
    exact ⟨i, hv, rfl, F1, g1⟩)
/-! ### tests -/
theorem snd_te {x : D} {z : Bool} (sa : SndP X Γ a x) (h : truD x = .ok z) (hp : plainT a = true) : SndT X Γ a z := fun σ F H rel =>
  .of (pt_truth WE.pe (plainT_of hp)) ((sa σ F H rel).mono fun v H1 ⟨F1, g1, hv⟩ => ⟨z, tru_ok' h g1.fh hv, rfl, F1, g1⟩)
theorem snd_tcmp {op : CO} {x y : D} {z : Bool} {pos : Pos} (sa : SndP X Γ a x) (sb : SndP X Γ b y) (h : cmpD op x y = .ok z) (hs : noSet b = true) : SndT X Γ (.Compare a [cOp op] [b] pos) z := by
  intro σ F H rel
  refine .of (pt_cmpR (opCmp op) WE.pe WE.pe (behind_of hs)) ?_
  exact we2 sa sb rel fun F2 H2 v u g hx hy => cmp_ok h g.fh hx hy fun v H' ⟨F', g', q⟩ => ⟨z, q.bl_of, rfl, F', g.trans g'⟩
theorem snd_tchain {o1 o2 : CO} {x y : D} {z zz : Bool} {c : Expr} {pos : Pos} (sa : SndP X Γ a x) (sb : SndP X Γ b y) (h : cmpD o1 x y = .ok z) (hs : noSet c = true)
    (h1 : z = true → ∃ w, SndP X Γ c w ∧ cmpD o2 y w = .ok zz) (h2 : z = false → zz = false) : SndT X Γ (.Compare a [cOp o1, cOp o2] [b, c] pos) zz := by
  intro σ F H rel
  refine .of (pt_chain (opCmp o1) (opCmp o2) WE.pe WE.pe WE.pe (by first | exact behind_of hs | rfl)) ?_
  refine we2 sa sb rel fun F2 H2 v u g hx hy => cmp_ok h g.fh hx hy fun v' H3 ⟨F3, g3, q⟩ => ⟨z, q.bl_of, ?_⟩
  cases z with
  | true =>
    rw [if_pos rfl]
    obtain ⟨w, sc, hw⟩ := h1 rfl
    refine (sc σ F3 H3 (rel.grow (g.trans g3))).mono fun u' H4 ⟨F4, g4, hw'⟩ => ?_
    exact cmp_ok hw g4.fh (hy.mono (g3.f.trans g4.f) (g3.h.trans g4.h)) hw' fun v H' ⟨F', g', q⟩ => ⟨zz, q.bl_of, rfl, F', ((g.trans g3).trans g4).trans g'⟩
  | false =>
    rw [if_neg (by decide)]
    exact ⟨false, rfl, (h2 rfl).symm, F3, g.trans g3⟩
theorem bool_pw {op : BoolOp} {vs : List Expr} {pos : Pos} : PW X (.BoolOp op vs pos) (WT X (.BoolOp op vs pos)) := ⟨fun _ pins s _ _ _ I h => h pins s I⟩
theorem snd_tand {c r : Bool} {rest : List Expr} {pos : Pos} (sa : SndT X Γ a c) (sb : c = true → SndT X Γ (.BoolOp .And (b :: rest) pos) r) (h : c = false → r = false) : SndT X Γ (.BoolOp .And (a :: b :: rest) pos) r := by
  intro σ F H rel
  refine .of (PW.pt (pw_and WT.pt bool_pw)) ((sa σ F H rel).mono fun d H1 ⟨e, F1, g⟩ => ?_)
  subst e
  cases d with
  | true => rw [if_pos rfl]; exact (sb rfl σ F1 H1 (rel.grow g)).mono fun v H' ⟨e, F2, g2⟩ => ⟨e, F2, g.trans g2⟩
  | false => rw [if_neg (by decide)]; exact ⟨(h rfl).symm, F1, g⟩
theorem snd_tor {c r : Bool} {rest : List Expr} {pos : Pos} (sa : SndT X Γ a c) (sb : c = false → SndT X Γ (.BoolOp .Or (b :: rest) pos) r) (h : c = true → r = true) : SndT X Γ (.BoolOp .Or (a :: b :: rest) pos) r := by
  intro σ F H rel
  refine .of (PW.pt (pw_or WT.pt bool_pw)) ((sa σ F H rel).mono fun d H1 ⟨e, F1, g⟩ => ?_)
  subst e
  cases d with
  | true => rw [if_pos rfl]; exact ⟨(h rfl).symm, F1, g⟩
  | false => rw [if_neg (by decide)]; exact (sb rfl σ F1 H1 (rel.grow g)).mono fun v H' ⟨e, F2, g2⟩ => ⟨e, F2, g.trans g2⟩
theorem snd_tand1 {r : Bool} {pos : Pos} (sa : SndT X Γ a r) : SndT X Γ (.BoolOp .And [a] pos) r := fun σ F H rel => .of (PW.pt (pw_and1 WT.pt)) (sa σ F H rel)
theorem snd_tor1 {r : Bool} {pos : Pos} (sa : SndT X Γ a r) : SndT X Γ (.BoolOp .Or [a] pos) r := fun σ F H rel => .of (PW.pt (pw_or1 WT.pt)) (sa σ F H rel)
theorem snd_tnot {r : Bool} {pos : Pos} (sa : SndT X Γ a r) : SndT X Γ (.UnaryOp .Not a pos) (!r) := fun σ F H rel =>
  .of (pt_not WT.pt) ((sa σ F H rel).mono fun d H1 ⟨e, F1, g⟩ => ⟨by rw [e], F1, g⟩)
/-! ### iterators -/
theorem walks_list {K : PySem.W.Frag} {F : Hp} {p : Addr} {l : List D} {vs : List V} (h : F p = some (.lst vs)) (r : Rps K F l vs) : Walks K (Itl K p) F l := by
  intro i F' H' e1 e2
  have hq : SqL K H' p vs := .of (e2 _ _ (e1 _ _ h))
  refine ⟨fun d hd => ?_, fun hi => ⟨vs, hq, by rw [r.len]; omega⟩⟩
  obtain ⟨v, hv, hr⟩ := r.get hd
  refine ⟨⟨vs, v, hq, hv⟩, fun x H'' y => ?_⟩
  obtain ⟨rfl, y⟩ := y
  have := y vs hq
  rw [hv] at this; cases this
  exact ⟨F', .refl e2, Rp.mono e1 _ hr⟩
theorem walks_tup {K : PySem.W.Frag} {F : Hp} {p : Addr} {l : List D} {vs : List V} (h : SqT K F p vs) (r : Rps K F l vs) : Walks K (Itt K p) F l := by
  intro i F' H' e1 e2
  have hq : SqT K H' p vs := sqT_mono e2 (sqT_mono e1 h)
  refine ⟨fun d hd => ?_, fun hi => ⟨vs, hq, by rw [r.len]; omega⟩⟩
  obtain ⟨v, hv, hr⟩ := r.get hd
  refine ⟨⟨vs, v, hq, hv⟩, fun x H'' y => ?_⟩
  obtain ⟨rfl, y⟩ := y
  have := y vs hq
  rw [hv] at this; cases this
  exact ⟨F', .refl e2, Rp.mono e1 _ hr⟩
theorem walks_range {K : PySem.W.Frag} {F : Hp} {lo : Int} {n : Nat} : Walks K (Itr lo n) F (rangeD lo n) := by
  intro i F' H' e1 e2
  unfold rangeD
  refine ⟨fun d hd => ?_, fun hi => by rw [List.length_map, List.length_range] at hi; exact Nat.le_of_eq hi.symm⟩
  rw [List.getElem?_map] at hd
  obtain ⟨j, hj, rfl⟩ := Option.map_eq_some_iff.mp hd
  have hin : i < n := by
    have := (List.getElem?_eq_some_iff.mp hj).1
    simpa using this
  have hji : j = i := by
    rw [List.getElem?_range hin] at hj
    exact (Option.some.inj hj).symm
  subst hji
  refine ⟨hin, fun x H'' y => ?_⟩
  obtain ⟨rfl, rfl⟩ := y
  exact ⟨F', .refl e2, by unfold Rp; rfl⟩
theorem walks_str {K : PySem.W.Frag} {F : Hp} {z : Str} : Walks K (Its z) F (z.cps.toList.map fun c => .str (chr1 c)) := by
  intro i F' H' e1 e2
  refine ⟨fun d hd => ?_, fun hi => by
    rw [List.length_map, Array.length_toList] at hi
    exact Nat.le_of_eq hi.symm⟩
  rw [List.getElem?_map] at hd
  obtain ⟨c, hc, rfl⟩ := Option.map_eq_some_iff.mp hd
  have hin : i < z.cps.size := by
    have := (List.getElem?_eq_some_iff.mp hc).1
    simpa using this
  refine ⟨hin, fun x H'' y => ?_⟩
  obtain ⟨rfl, c', hc', rfl⟩ := y
  have : c = c' := by
    rw [Array.getElem?_toList] at hc
    rw [hc] at hc'
    exact Option.some.inj hc'
  subst this
  exact ⟨F', .refl e2, by unfold Rp; rfl⟩
theorem snd_ie {r : R} {ds : List D} (sa : SndE X Γ a r) (h : r.d = .lst ds ∨ r.d = .tup ds) : SndI X Γ a ds := by
  intro tg σ F H rel
  rcases h with h | h
  · refine .of (pi_list WE.pe) ((sa σ F H rel).mono fun v H1 q => ?_)
    obtain ⟨F1, g, hv⟩ := q.val
    rw [h] at hv
    unfold Rp at hv
    obtain ⟨p, vs, rfl, h2, h3⟩ := hv
    exact ⟨p, rfl, ⟨vs, .of (g.fh _ _ h2)⟩, F1, g, walks_list h2 h3⟩
  · refine .of (pi_tup WE.pe) ((sa σ F H rel).mono fun v H1 q => ?_)
    obtain ⟨F1, g, hv⟩ := q.val
    rw [h] at hv
    unfold Rp at hv
    obtain ⟨p, vs, rfl, h2, h3⟩ := hv
    exact ⟨p, rfl, ⟨vs, sqT_mono g.fh h2⟩, F1, g, walks_tup h2 h3⟩
theorem snd_is {r : R} {z : Str} (sa : SndE X Γ a r) (h : r.d = .str z) : SndI X Γ a (z.cps.toList.map fun c => .str (chr1 c)) := by
  intro tg σ F H rel
  refine .of (pi_str WE.pe) ((sa σ F H rel).mono fun v H1 q => ?_)
  obtain ⟨F1, g, hv⟩ := q.val
  rw [h] at hv
  unfold Rp at hv
  exact ⟨z, hv, F1, g, walks_str⟩
theorem snd_ir1 (C : Cok X M T k) {n : Int} {p pos : Pos} (hg : glB X.env.scope "range" = true) (sa : SndE X Γ a (.val (.int n))) (hs : noStar a = true) (h1 : -(2 ^ 62) ≤ n) (h2 : n < 2 ^ 62) :
    SndI X Γ (.Call (.Name "range" p) [a] [] pos) (rangeD 0 n.toNat) := by
  intro tg σ F H rel
  have se : starEach [a] X.env = [(false, eval a X.env)] := starEach_cons hs
  refine .of (pi_range1 (glB_gl hg) (C.blt _ (by decide +kernel)) (pa_cons WE.pe pa_nil se) se) ((sa σ F H rel).mono fun v H1 ⟨F1, g, hv⟩ => ?_)
  simp only [RpR, Rp] at hv
  subst hv
  exact ⟨n, rfl, h1, h2, F1, g, walks_range⟩
theorem snd_ir2 (C : Cok X M T k) {n m : Int} {p pos : Pos} (hg : glB X.env.scope "range" = true) (sa : SndE X Γ a (.val (.int n))) (sb : SndE X Γ b (.val (.int m))) (hs : noStar a = true) (hs2 : noStar b = true) (h1 : -(2 ^ 62) ≤ n) (h2 : n < 2 ^ 62) (h3 : -(2 ^ 62) ≤ m) (h4 : m < 2 ^ 62) :
    SndI X Γ (.Call (.Name "range" p) [a, b] [] pos) (rangeD n (m - n).toNat) := by
  intro tg σ F H rel
  have sb' : starEach [b] X.env = [(false, eval b X.env)] := starEach_cons hs2
  have se : starEach [a, b] X.env = [(false, eval a X.env), (false, eval b X.env)] := by rw [starEach_cons hs, sb']
  refine .of (pi_range2 (glB_gl hg) (C.blt _ (by decide +kernel)) (pa_cons WE.pe (pa_cons WE.pe pa_nil sb') (starEach_cons hs)) se sb') ((sa σ F H rel).mono fun v H1 ⟨F1, g, hv⟩ => ?_)
  refine (sb σ F1 H1 (rel.grow g)).mono fun u H2 ⟨F2, g2, hu⟩ => ?_
  simp only [RpR, Rp] at hv hu
  subst hv hu
  exact ⟨n, m, rfl, ⟨h1, h2, h3, h4⟩, F2, g.trans g2, walks_range⟩
end
end NK

namespace NK
open PySem L2

theorem Grow.write {F H F' H' : Hp} (g : Grow F H F' H') {p : Addr} {o : HO} (h0 : H p = none) (f : F' p = none) : Grow F H F' (upd H' p o) :=
  ⟨fun b u q => by rw [upd_ne (ne_of_none q h0)]; exact g.h _ _ q, g.f, fun b u q => by rw [upd_ne (ne_of_none q f)]; exact g.fh _ _ q, g.new⟩
theorem Grow.none_of {F H F' H' : Hp} (g : Grow F H F' H') {p : Addr} {o : HO} (h : H p = some o) (f : F p = none) : F' p = none := by
  cases q : F' p with
  | none => rfl
  | some u =>
    rcases g.new _ _ q with z | z
    · rw [f] at z; cases z
    · rw [h] at z; cases z

theorem lcRun_cons {f : D → Res (Option D)} {d : D} {r out : List D} (h : lcRun f (d :: r) = .ok out) : ∃ o l, f d = .ok o ∧ lcRun f r = .ok l ∧ out = (match o with | some x => x :: l | none => l) := by
  unfold lcRun at h
  obtain ⟨o, h1, h2⟩ := Res.bind_ok h
  obtain ⟨l, h3, h4⟩ := Res.bind_ok h2
  cases h4
  exact ⟨o, l, h1, h3, rfl⟩

/-- what a comprehension's reading asks -/
theorem lc_read {X : Cx} {Γ : List Sl} {tg iter : Expr} {i : Nat} {f : D → Res (Option D)} {ds out : List D} {tt : TT} {te : TE} {σ : St} {F H : Hp} {Q : VK} (rel : Rel X.K Γ σ F H) (si : SndI X Γ iter ds) (hrun : lcRun f ds = .ok out) (hz : ds.length ≤ sizeLine)
    (hstep : ∀ d o, f d = .ok o → ∀ σ2 F2 H2, Rel X.K (Γ.set i (.val d)) σ2 F2 H2 → ∀ (Yes : V → Hp → Prop) (No : Hp → Prop), (∀ dy, o = some dy → ∀ y H4, PoV X.K F2 H2 dy y H4 → Yes y H4) → (o = none → ∀ F3 H3, Grow F2 H2 F3 H3 → No H3) →
      tt σ2 H2 (fun b H3 => if b = true then te σ2 H3 Yes else No H3))
    (hQ : ∀ v H', PoE X.K F H (.own out) v H' → Q v H') : tLc (WI X tg iter) (gName i) tt te [i] σ H Q := by
  show WI X tg iter σ H _
  intro pins s I
  refine thn (si tg σ F H rel pins s I) fun v s1 h1 => thn h1 fun itv s2 h2 => ?_
  obtain ⟨it, fp, tn, J, H1, e1, I1, T1, t1, f1, F1, g1, wk⟩ := h2
  refine ⟨it, fp, tn, J, H1, e1, I1, T1, t1, f1, fun D hD => ?_⟩
  refine ⟨fun j m H' => m = ds.length - j ∧ j ≤ ds.length ∧ ∃ Fj acc out1 out2, Grow F H Fj H' ∧ Same F1 Fj ∧ Fj D = none ∧ H' D = some (.lst acc) ∧ Rps X.K Fj out1 acc ∧ out1.length ≤ j ∧ lcRun f (ds.drop j) = .ok out2 ∧ out = out1 ++ out2, ⟨ds.length, ?_⟩, ?_⟩
  · refine ⟨by simp, Nat.zero_le _, F1, [], [], out, g1.write (g1.h.free hD) (g1.fh.free hD), Same.refl _, g1.fh.free hD, upd_same, Rps.nil', Nat.le_refl _, by simpa using hrun, rfl⟩
  · rintro j m H' ⟨rfl, hj, Fj, acc, out1, out2, gj, sj, fj, hacc, racc, lacc, hr2, hout⟩
    by_cases hlt : j < ds.length
    · have hd : ds[j]? = some ds[j] := List.getElem?_eq_getElem hlt
      obtain ⟨go, yl⟩ := (wk j Fj H' sj gj.fh).1 _ hd
      rw [List.drop_eq_getElem_cons hlt] at hr2
      obtain ⟨o, l, ho, hl, rfl⟩ := lcRun_cons hr2
      refine .inr ⟨go, fun H'' => ∃ F' acc' out1', Grow F H F' H'' ∧ Same F1 F' ∧ F' D = none ∧ H'' D = some (.lst acc') ∧ Rps X.K F' out1' acc' ∧ out1'.length ≤ j + 1 ∧ out = out1' ++ l,
        fun H'' ⟨F', acc', out1', a1, a2, a3, a4, a5, a6, a7⟩ => ⟨ds.length - (j + 1), by omega, rfl, hlt, F', acc', out1', l, a1, a2, a3, a4, a5, a6, hl, a7⟩, fun x H2 y => ?_⟩
      obtain ⟨F2, g2, hx⟩ := yl x H2 y
      have fd2 : F2 D = none := g2.none_of hacc fj
      have rel2 : Rel X.K (Γ.set i (.val ds[j])) (σ.set i (some x)) F2 H2 := (rel.grow (gj.trans g2)).setv hx
      have es : (wipe σ [i]).set i (some x) = σ.set i (some x) := by
        show (σ.set i none).set i (some x) = _
        rw [List.set_set]
      show wipe ((wipe σ [i]).set i (some x)) [i] = wipe σ [i] ∧ _
      refine ⟨by rw [es]; show (σ.set i (some x)).set i none = σ.set i none; rw [List.set_set], ?_⟩
      rw [es]
      refine hstep _ o ho _ F2 H2 rel2 _ _ (fun dy ey y' H4 q => ?_) (fun en F3 H3 g3 => ?_)
      · obtain ⟨F4, g4, hy⟩ := q
        subst ey
        have e4 : H4 D = some (.lst acc) := g4.h _ _ (g2.h _ _ hacc)
        have f4 : F4 D = none := g4.none_of (g2.h _ _ hacc) fd2
        have G := (gj.trans g2).trans g4
        have hH : H D = none := g1.h.free hD
        refine ⟨acc, e4, ?_, F4, acc ++ [y'], out1 ++ [dy], G.write hH f4, sj.trans (g2.f.trans g4.f), f4, upd_same, (Rps.mono (g2.f.trans g4.f) _ racc).app (.one hy), ?_, ?_⟩
        · rw [racc.len]; omega
        · simp; omega
        · rw [hout]; simp
      · subst en
        exact ⟨F3, acc, out1, (gj.trans g2).trans g3, sj.trans (g2.f.trans g3.f), g3.none_of (g2.h _ _ hacc) fd2, g3.h _ _ (g2.h _ _ hacc), Rps.mono (g2.f.trans g3.f) _ racc, by omega, hout⟩
    · have ej : j = ds.length := by omega
      subst ej
      refine .inl ⟨(wk _ Fj H' sj gj.fh).2 rfl, hQ _ _ ?_⟩
      rw [List.drop_length] at hr2
      cases hr2
      rw [List.append_nil] at hout
      subst hout
      exact ⟨Fj, gj, D, acc, rfl, g1.h.free hD, fj, hacc, racc⟩

section
variable {X : Cx} {Γ : List Sl} {M : Nm} {T : Tb} {k : Nat}
/-- the context of a comprehension's block -/
theorem Cok.blk (C : Cok X M T k) {s : Shared} {H : Hp} {scope : Scope} {cl : List (Str × Addr)} {Cc : Addr} {fp : List Addr} (hk : scope.kind = .function) : Cok (X.blk s H scope (compEnvC scope cl Cc X.env) fp) M T k :=
  ⟨C.room, C.nd, C.hN, C.calm, hk, PassesOwn.never, C.glo, C.fn, C.blt⟩
theorem blk_scope {s : Shared} {H : Hp} {scope : Scope} {cl : List (Str × Addr)} {Cc : Addr} {fp : List Addr} : (X.blk s H scope (compEnvC scope cl Cc X.env) fp).env.scope = relS scope X.env.scope := rfl
theorem loc_rel {scope sc : Scope} {x : Str} (h : Loc scope x) : Loc (relS scope sc) x ∧ ((scope.names.lookup x == some .cell) = true ∨ (relS scope sc).names.lookup x = some .local) := by
  rcases h with h | h
  · have q : (relS scope sc).names.lookup x = some .local := lookup_relS_keep (sc := sc) (by decide) h
    exact ⟨.inl q, .inr q⟩
  · have q : (relS scope sc).names.lookup x = some .cell := lookup_relS_keep (sc := sc) (by decide) h
    exact ⟨.inr q, .inl (by rw [h]; rfl)⟩
theorem blk_pg (C : Cok X M T k) {x : Str} {pos : Pos} {i : Nat} {scope : Scope} (hi : M.N[i]? = some x) (hl : locB scope x = true) (s : Shared) (H : Hp) (Cc : Addr) (cl : List (Str × Addr)) (fp : List Addr) : PG (X.blk s H scope (compEnvC scope cl Cc X.env) fp) (.Name x pos) (gName i) := by
  obtain ⟨h1, h2⟩ := loc_rel (sc := X.env.scope) (locB_loc hl)
  exact pg_name C.nd (by rw [← C.hN] at hi; exact hi) h1 h2
/-- the readings that serve every block -/
def teB (X : Cx) (scope : Scope) (e : Expr) : TE := fun σ H Q => ∀ (s : Shared) (H0 : Hp) (Cc : Addr) (cl : List (Str × Addr)) (fp : List Addr), WE (X.blk s H0 scope (compEnvC scope cl Cc X.env) fp) e σ H Q
def ttB (X : Cx) (scope : Scope) (e : Expr) : TT := fun σ H Q => ∀ (s : Shared) (H0 : Hp) (Cc : Addr) (cl : List (Str × Addr)) (fp : List Addr), WT (X.blk s H0 scope (compEnvC scope cl Cc X.env) fp) e σ H Q
theorem teB_pe {scope : Scope} {e : Expr} (s : Shared) (H0 : Hp) (Cc : Addr) (cl : List (Str × Addr)) (fp : List Addr) : PE (X.blk s H0 scope (compEnvC scope cl Cc X.env) fp) e (teB X scope e) := ⟨fun pins s' _ _ _ I h => h s H0 Cc cl fp pins s' I⟩
theorem ttB_pt {scope : Scope} {e : Expr} (s : Shared) (H0 : Hp) (Cc : Addr) (cl : List (Str × Addr)) (fp : List Addr) : PT (X.blk s H0 scope (compEnvC scope cl Cc X.env) fp) e (ttB X scope e) := ⟨fun pins s' _ _ _ I h => h s H0 Cc cl fp pins s' I⟩
/-- soundness of an element in every block -/
def SndB (X : Cx) (scope : Scope) (Γ : List Sl) (e : Expr) (r : R) : Prop := ∀ (s : Shared) (H0 : Hp) (Cc : Addr) (cl : List (Str × Addr)) (fp : List Addr), SndE (X.blk s H0 scope (compEnvC scope cl Cc X.env) fp) Γ e r
def SndBT (X : Cx) (scope : Scope) (Γ : List Sl) (e : Expr) (b : Bool) : Prop := ∀ (s : Shared) (H0 : Hp) (Cc : Addr) (cl : List (Str × Addr)) (fp : List Addr), SndT (X.blk s H0 scope (compEnvC scope cl Cc X.env) fp) Γ e b
theorem lc_read0 {tg iter elt : Expr} {scope : Scope} {i : Nat} {e : CE} {ds out : List D} {σ : St} {F H : Hp} {Q : VK} (rel : Rel X.K Γ σ F H) (si : SndI X Γ iter ds)
    (hrun : lcRun (fun d => (ev T (Γ.set i (.val d)) e).map fun r => some r.d) ds = .ok out) (hz : ds.length ≤ sizeLine) (se : ∀ d r, ev T (Γ.set i (.val d)) e = .ok r → SndB X scope (Γ.set i (.val d)) elt r)
    (hQ : ∀ v H', PoE X.K F H (.own out) v H' → Q v H') : tLc (WI X tg iter) (gName i) tYes (teB X scope elt) [i] σ H Q := by
  refine lc_read rel si hrun hz (fun d o ho σ2 F2 H2 rel2 Yes No hy hn => ?_) hQ
  simp only [Res.map] at ho
  obtain ⟨r, h1, h2⟩ := Res.bind_ok ho
  cases h2
  show (if true = true then teB X scope elt σ2 H2 Yes else No H2)
  rw [if_pos rfl]
  intro s H0 Cc cl fp
  exact (se d r h1 s H0 Cc cl fp σ2 F2 H2 rel2).mono fun v H' q => hy _ rfl _ _ q.val
theorem lc_read1 {tg iter elt c : Expr} {scope : Scope} {i : Nat} {e : CE} {t : CT} {ds out : List D} {σ : St} {F H : Hp} {Q : VK} (rel : Rel X.K Γ σ F H) (si : SndI X Γ iter ds)
    (hrun : lcRun (fun d => (evt T (Γ.set i (.val d)) t).bind fun z => if z then (ev T (Γ.set i (.val d)) e).map fun r => some r.d else .ok none) ds = .ok out) (hz : ds.length ≤ sizeLine)
    (st : ∀ d b, evt T (Γ.set i (.val d)) t = .ok b → SndBT X scope (Γ.set i (.val d)) c b) (se : ∀ d r, ev T (Γ.set i (.val d)) e = .ok r → SndB X scope (Γ.set i (.val d)) elt r)
    (hQ : ∀ v H', PoE X.K F H (.own out) v H' → Q v H') : tLc (WI X tg iter) (gName i) (ttB X scope c) (teB X scope elt) [i] σ H Q := by
  refine lc_read rel si hrun hz (fun d o ho σ2 F2 H2 rel2 Yes No hy hn => ?_) hQ
  obtain ⟨z, h1, h2⟩ := Res.bind_ok ho
  intro s H0 Cc cl fp
  refine (st d z h1 s H0 Cc cl fp σ2 F2 H2 rel2).mono fun b H3 ⟨eb, F3, g3⟩ => ?_
  subst eb
  cases b with
  | true =>
    simp only [if_true, Res.map] at h2 ⊢
    obtain ⟨r, h3, h4⟩ := Res.bind_ok h2
    cases h4
    intro s H0 Cc cl fp
    refine (se d r h3 s H0 Cc cl fp σ2 F3 H3 (rel2.grow g3)).mono fun v H' q => hy _ rfl _ _ ?_
    obtain ⟨F', g', q⟩ := q.val
    exact ⟨F', g3.trans g', q⟩
  | false =>
    simp only [Bool.false_eq_true, if_false] at h2 ⊢
    cases h2
    exact hn rfl F3 H3 g3
end
end NK

namespace NK
open PySem L2
section
variable {M : Nm} {sc : Scope} {e : Expr}
theorem iv_var {i : Nat} (h : okE M sc (.var i) e = true) : ∃ x p, e = .Name x p ∧ (visB sc x && decide (M.N[i]? = some x) && nmB x) = true := by
  cases e <;> first | exact Bool.noConfusion h | exact ⟨_, _, rfl, h⟩
theorem iv_glo {i : Nat} (h : okE M sc (.glo i) e = true) : ∃ x p, e = .Name x p ∧ (glB sc x && decide (M.cs[i]? = some x) && nmB x) = true := by
  cases e <;> first | exact Bool.noConfusion h | exact ⟨_, _, rfl, h⟩
theorem iv_int {i : Int} (h : okE M sc (.int i) e = true) : ∃ a b, e = .Constant (.int i) a b := by
  cases e with
  | Constant c a b =>
    cases c with
    | int j => have h : decide (i = j) = true := h; simp at h; subst h; exact ⟨_, _, rfl⟩
    | _ => exact Bool.noConfusion h
  | _ => exact Bool.noConfusion h
theorem iv_str {i : Str} (h : okE M sc (.str i) e = true) : ∃ a b, e = .Constant (.str i) a b := by
  cases e with
  | Constant c a b =>
    cases c with
    | str j => have h : decide (i = j) = true := h; simp at h; subst h; exact ⟨_, _, rfl⟩
    | _ => exact Bool.noConfusion h
  | _ => exact Bool.noConfusion h
theorem iv_bl {i : Bool} (h : okE M sc (.bl i) e = true) : ∃ a b, e = .Constant (.bool i) a b := by
  cases e with
  | Constant c a b =>
    cases c with
    | bool j => have h : decide (i = j) = true := h; simp at h; subst h; exact ⟨_, _, rfl⟩
    | _ => exact Bool.noConfusion h
  | _ => exact Bool.noConfusion h
theorem iv_non (h : okE M sc .non e = true) : ∃ a b, e = .Constant .none a b := by
  cases e with
  | Constant c a b =>
    cases c with
    | none => exact ⟨_, _, rfl⟩
    | _ => exact Bool.noConfusion h
  | _ => exact Bool.noConfusion h
theorem iv_bin {op : BO} {a b : CE} (h : okE M sc (.bin op a b) e = true) : ∃ x o y p, e = .BinOp x o y p ∧ (decide (bOp op = o) && okE M sc a x && okE M sc b y) = true := by
  cases e <;> first | exact Bool.noConfusion h | exact ⟨_, _, _, _, rfl, h⟩
theorem iv_neg {a : CE} (h : okE M sc (.neg a) e = true) : ∃ x p, e = .UnaryOp .USub x p ∧ okE M sc a x = true := by
  cases e with
  | UnaryOp o x p => cases o <;> first | exact Bool.noConfusion h | exact ⟨_, _, rfl, h⟩
  | _ => exact Bool.noConfusion h
theorem iv_notv {a : CE} (h : okE M sc (.notv a) e = true) : ∃ x p, e = .UnaryOp .Not x p ∧ okE M sc a x = true := by
  cases e with
  | UnaryOp o x p => cases o <;> first | exact Bool.noConfusion h | exact ⟨_, _, rfl, h⟩
  | _ => exact Bool.noConfusion h
theorem iv_andv {a b : CE} (h : okE M sc (.andv a b) e = true) : (∃ x y p, e = .BoolOp .And [x, y] p ∧ (okE M sc a x && okE M sc b y) = true) ∨ ∃ x y z r p, e = .BoolOp .And (x :: y :: z :: r) p ∧ (okE M sc a x && okE M sc b (.BoolOp .And (y :: z :: r) p)) = true := by
  cases e with
  | BoolOp o vs p =>
    cases o with
    | And =>
      match vs, h with
      | [], h => exact Bool.noConfusion h
      | [x], h => exact Bool.noConfusion h
      | [x, y], h => exact .inl ⟨_, _, _, rfl, h⟩
      | x :: y :: z :: r, h => exact .inr ⟨_, _, _, _, _, rfl, h⟩
    | Or => exact Bool.noConfusion h
  | _ => exact Bool.noConfusion h
theorem iv_orv {a b : CE} (h : okE M sc (.orv a b) e = true) : (∃ x y p, e = .BoolOp .Or [x, y] p ∧ (okE M sc a x && okE M sc b y) = true) ∨ ∃ x y z r p, e = .BoolOp .Or (x :: y :: z :: r) p ∧ (okE M sc a x && okE M sc b (.BoolOp .Or (y :: z :: r) p)) = true := by
  cases e with
  | BoolOp o vs p =>
    cases o with
    | Or =>
      match vs, h with
      | [], h => exact Bool.noConfusion h
      | [x], h => exact Bool.noConfusion h
      | [x, y], h => exact .inl ⟨_, _, _, rfl, h⟩
      | x :: y :: z :: r, h => exact .inr ⟨_, _, _, _, _, rfl, h⟩
    | And => exact Bool.noConfusion h
  | _ => exact Bool.noConfusion h
theorem iv_cmp {op : CO} {a b : CE} (h : okE M sc (.cmp op a b) e = true) : ∃ x o y p, e = .Compare x [o] [y] p ∧ (decide (cOp op = o) && okE M sc a x && okE M sc b y && noSet y) = true := by
  cases e with
  | Compare x os ys p =>
    match os, ys, h with
    | [o], [y], h => exact ⟨_, _, _, _, rfl, h⟩
    | [], _, h => exact Bool.noConfusion h
    | [o], [], h => exact Bool.noConfusion h
    | [o], _ :: _ :: _, h => exact Bool.noConfusion h
    | _ :: _ :: _, _, h => exact Bool.noConfusion h
  | _ => exact Bool.noConfusion h
theorem iv_chain {o1 o2 : CO} {a b c : CE} (h : okE M sc (.chain o1 o2 a b c) e = true) : ∃ x p1 p2 y z p, e = .Compare x [p1, p2] [y, z] p ∧ (decide (cOp o1 = p1) && decide (cOp o2 = p2) && okE M sc a x && okE M sc b y && okE M sc c z && noSet y && noSet z) = true := by
  cases e with
  | Compare x os ys p =>
    match os, ys, h with
    | [_, _], [_, _], h => exact ⟨_, _, _, _, _, _, rfl, h⟩
    | [], _, h => exact Bool.noConfusion h
    | [_], _, h => exact Bool.noConfusion h
    | [_, _], [], h => exact Bool.noConfusion h
    | [_, _], [_], h => exact Bool.noConfusion h
    | [_, _], _ :: _ :: _ :: _, h => exact Bool.noConfusion h
    | _ :: _ :: _ :: _, _, h => exact Bool.noConfusion h
  | _ => exact Bool.noConfusion h
theorem iv_ifx {t : CT} {a b : CE} (h : okE M sc (.ifx t a b) e = true) : ∃ c x y p, e = .IfExp c x y p ∧ (okT M sc t c && okE M sc a x && okE M sc b y) = true := by
  cases e <;> first | exact Bool.noConfusion h | exact ⟨_, _, _, _, rfl, h⟩
theorem iv_tup {l : CL} (h : okE M sc (.tup l) e = true) : ∃ es a b, e = .Tuple es a b ∧ okL M sc l es = true := by
  cases e <;> first | exact Bool.noConfusion h | exact ⟨_, _, _, rfl, h⟩
theorem iv_lst {l : CL} (h : okE M sc (.lst l) e = true) : ∃ es b, e = .List es b ∧ okL M sc l es = true := by
  cases e <;> first | exact Bool.noConfusion h | exact ⟨_, _, rfl, h⟩
theorem iv_idx {a b : CE} (h : okE M sc (.idx a b) e = true) : ∃ x y p, e = .Subscript x y p ∧ (okE M sc a x && okE M sc b y && noSlice y) = true := by
  cases e <;> first | exact Bool.noConfusion h | exact ⟨_, _, _, rfl, h⟩
theorem iv_sli {a : CE} {lo hi : CP} (h : okE M sc (.sli a lo hi) e = true) : ∃ x l u p q, e = .Subscript x (.Slice l u none q) p ∧ (okE M sc a x && okP M sc lo l && okP M sc hi u) = true := by
  cases e with
  | Subscript x y p =>
    cases y with
    | Slice l u s q =>
      cases s with
      | none => exact ⟨_, _, _, _, _, rfl, h⟩
      | some _ => exact Bool.noConfusion h
    | _ => exact Bool.noConfusion h
  | _ => exact Bool.noConfusion h
theorem iv_call {f : Nat} {l : CL} (h : okE M sc (.call f l) e = true) : ∃ x p es q, e = .Call (.Name x p) es [] q ∧ (glB sc x && decide (M.fs[f]? = some x) && nmB x && okL M sc l es && es.all noStar) = true := by
  cases e with
  | Call g es ks q =>
    cases g with
    | Name x p =>
      cases ks with
      | nil => exact ⟨_, _, _, _, rfl, h⟩
      | cons _ _ => exact Bool.noConfusion h
    | _ => exact Bool.noConfusion h
  | _ => exact Bool.noConfusion h
theorem iv_bi {b : Bi} {a : CE} (h : okE M sc (.bi b a) e = true) : ∃ x p y q, e = .Call (.Name x p) [y] [] q ∧ (glB sc x && decide (biN b = x) && okE M sc a y && noStar y) = true := by
  cases e with
  | Call g es ks q =>
    cases g with
    | Name x p =>
      match es, ks, h with
      | [y], [], h => exact ⟨_, _, _, _, rfl, h⟩
      | [], _, h => exact Bool.noConfusion h
      | [_], _ :: _, h => exact Bool.noConfusion h
      | _ :: _ :: _, _, h => exact Bool.noConfusion h
    | _ => exact Bool.noConfusion h
  | _ => exact Bool.noConfusion h
theorem iv_bj {b : Bj} {a c : CE} (h : okE M sc (.bj b a c) e = true) : ∃ x p y z q, e = .Call (.Name x p) [y, z] [] q ∧ (glB sc x && decide (bjN b = x) && okE M sc a y && okE M sc c z && noStar y && noStar z) = true := by
  cases e with
  | Call g es ks q =>
    cases g with
    | Name x p =>
      match es, ks, h with
      | [y, z], [], h => exact ⟨_, _, _, _, _, rfl, h⟩
      | [], _, h => exact Bool.noConfusion h
      | [_], _, h => exact Bool.noConfusion h
      | [_, _], _ :: _, h => exact Bool.noConfusion h
      | _ :: _ :: _ :: _, _, h => exact Bool.noConfusion h
    | _ => exact Bool.noConfusion h
  | _ => exact Bool.noConfusion h
theorem iv_isi {a : CE} {t : Ty} (h : okE M sc (.isi a t) e = true) : ∃ x p y z pz q, e = .Call (.Name x p) [y, .Name z pz] [] q ∧ (glB sc x && decide (("isinstance" : Str) = x) && okE M sc a y && noStar y && glB sc z && decide (tyN t = z)) = true := by
  cases e with
  | Call g es ks q =>
    cases g with
    | Name x p =>
      match es, ks, h with
      | [y, z], [], h => cases z <;> first | exact Bool.noConfusion h | exact ⟨_, _, _, _, _, _, rfl, h⟩
      | [], _, h => exact Bool.noConfusion h
      | [_], _, h => exact Bool.noConfusion h
      | [_, z], _ :: _, h => cases z <;> exact Bool.noConfusion h
      | _ :: z :: _ :: _, _, h => cases z <;> exact Bool.noConfusion h
    | _ => exact Bool.noConfusion h
  | _ => exact Bool.noConfusion h
theorem iv_mt1 {m : Mt} {o a : CE} (h : okE M sc (.mt1 m o a) e = true) : ∃ x nm ap y q, e = .Call (.Attribute x nm ap) [y] [] q ∧ (decide (mtN m = nm) && okE M sc o x && okE M sc a y && noStar y && noSuper x && (ap.endLine == q.line)) = true := by
  cases e with
  | Call g es ks q =>
    cases g with
    | Attribute x nm ap =>
      match es, ks, h with
      | [y], [], h => exact ⟨_, _, _, _, _, rfl, h⟩
      | [], _, h => exact Bool.noConfusion h
      | [_], _ :: _, h => exact Bool.noConfusion h
      | _ :: _ :: _, _, h => exact Bool.noConfusion h
    | _ => exact Bool.noConfusion h
  | _ => exact Bool.noConfusion h
theorem iv_lc {e' : CE} {i : Nat} {s : CI} (h : okE M sc (.lc e' i s) e = true) : ∃ elt x p iter scope q, e = .ListComp elt [⟨.Name x p, iter, [], 0⟩] scope q ∧
    (decide (M.N[i]? = some x) && locB scope x && blkC M.N sc scope [(x, i)] && okI M sc s iter && noSet iter && okE M (relS scope sc) e' elt) = true := by
  cases e with
  | ListComp elt gs scope q =>
    match gs, h with
    | [⟨tg, iter, ifs, as⟩], h =>
      cases tg with
      | Name x p =>
        match ifs, h with
        | [], h =>
          have h : (decide (as = 0) && decide (M.N[i]? = some x) && locB scope x && blkC M.N sc scope [(x, i)] && okI M sc s iter && noSet iter && okE M (relS scope sc) e' elt) = true := h
          simp only [Bool.and_eq_true, decide_eq_true_eq] at h
          obtain ⟨⟨⟨⟨⟨⟨rfl, h1⟩, h2⟩, h3⟩, h4⟩, h5⟩, h6⟩ := h
          exact ⟨_, _, _, _, _, _, rfl, by simp [h1, h2, h3, h4, h5, h6]⟩
        | _ :: _, h => exact Bool.noConfusion h
      | _ => exact Bool.noConfusion h
    | [], h => exact Bool.noConfusion h
    | ⟨tg, it, ifs, as⟩ :: _ :: _, h => cases tg <;> first | exact Bool.noConfusion h | (match ifs, h with
        | [], h => exact Bool.noConfusion h
        | [_], h => exact Bool.noConfusion h
        | _ :: _ :: _, h => exact Bool.noConfusion h)
  | _ => exact Bool.noConfusion h
theorem iv_lcc {e' : CE} {i : Nat} {s : CI} {t : CT} (h : okE M sc (.lcc e' i s t) e = true) : ∃ elt x p iter c scope q, e = .ListComp elt [⟨.Name x p, iter, [c], 0⟩] scope q ∧
    (decide (M.N[i]? = some x) && locB scope x && blkC M.N sc scope [(x, i)] && okI M sc s iter && noSet iter && okE M (relS scope sc) e' elt && okT M (relS scope sc) t c) = true := by
  cases e with
  | ListComp elt gs scope q =>
    match gs, h with
    | [⟨tg, iter, ifs, as⟩], h =>
      cases tg with
      | Name x p =>
        match ifs, h with
        | [c], h =>
          have h : (decide (as = 0) && decide (M.N[i]? = some x) && locB scope x && blkC M.N sc scope [(x, i)] && okI M sc s iter && noSet iter && okE M (relS scope sc) e' elt && okT M (relS scope sc) t c) = true := h
          simp only [Bool.and_eq_true, decide_eq_true_eq] at h
          obtain ⟨⟨⟨⟨⟨⟨⟨rfl, h1⟩, h2⟩, h3⟩, h4⟩, h5⟩, h6⟩, h7⟩ := h
          exact ⟨_, _, _, _, _, _, _, rfl, by simp [h1, h2, h3, h4, h5, h6, h7]⟩
        | [], h => exact Bool.noConfusion h
        | _ :: _ :: _, h => exact Bool.noConfusion h
      | _ => exact Bool.noConfusion h
    | [], h => exact Bool.noConfusion h
    | ⟨tg, it, ifs, as⟩ :: _ :: _, h => cases tg <;> first | exact Bool.noConfusion h | (match ifs, h with
        | [], h => exact Bool.noConfusion h
        | [_], h => exact Bool.noConfusion h
        | _ :: _ :: _, h => exact Bool.noConfusion h)
  | _ => exact Bool.noConfusion h
theorem ivt_e {c : CE} (h : okT M sc (.e c) e = true) : plainT e = true ∧ okE M sc c e = true := by
  have h : (plainT e && okE M sc c e) = true := by cases e <;> exact h
  simpa using h
theorem ivt_cmp {op : CO} {a b : CE} (h : okT M sc (.cmp op a b) e = true) : ∃ x o y p, e = .Compare x [o] [y] p ∧ (decide (cOp op = o) && okE M sc a x && okE M sc b y && noSet y) = true := by
  cases e with
  | Compare x os ys p =>
    match os, ys, h with
    | [o], [y], h => exact ⟨_, _, _, _, rfl, h⟩
    | [], _, h => exact Bool.noConfusion h
    | [o], [], h => exact Bool.noConfusion h
    | [o], _ :: _ :: _, h => exact Bool.noConfusion h
    | _ :: _ :: _, _, h => exact Bool.noConfusion h
  | _ => exact Bool.noConfusion h
theorem ivt_chain {o1 o2 : CO} {a b c : CE} (h : okT M sc (.chain o1 o2 a b c) e = true) : ∃ x p1 p2 y z p, e = .Compare x [p1, p2] [y, z] p ∧ (decide (cOp o1 = p1) && decide (cOp o2 = p2) && okE M sc a x && okE M sc b y && okE M sc c z && noSet y && noSet z) = true := by
  cases e with
  | Compare x os ys p =>
    match os, ys, h with
    | [_, _], [_, _], h => exact ⟨_, _, _, _, _, _, rfl, h⟩
    | [], _, h => exact Bool.noConfusion h
    | [_], _, h => exact Bool.noConfusion h
    | [_, _], [], h => exact Bool.noConfusion h
    | [_, _], [_], h => exact Bool.noConfusion h
    | [_, _], _ :: _ :: _ :: _, h => exact Bool.noConfusion h
    | _ :: _ :: _ :: _, _, h => exact Bool.noConfusion h
  | _ => exact Bool.noConfusion h
theorem ivt_and {a b : CT} (h : okT M sc (.and a b) e = true) : (∃ x y p, e = .BoolOp .And [x, y] p ∧ (okT M sc a x && okT M sc b y) = true) ∨ ∃ x y z r p, e = .BoolOp .And (x :: y :: z :: r) p ∧ (okT M sc a x && okT M sc b (.BoolOp .And (y :: z :: r) p)) = true := by
  cases e with
  | BoolOp o vs p =>
    cases o with
    | And =>
      match vs, h with
      | [], h => exact Bool.noConfusion h
      | [x], h => exact Bool.noConfusion h
      | [x, y], h => exact .inl ⟨_, _, _, rfl, h⟩
      | x :: y :: z :: r, h => exact .inr ⟨_, _, _, _, _, rfl, h⟩
    | Or => exact Bool.noConfusion h
  | _ => exact Bool.noConfusion h
theorem ivt_or {a b : CT} (h : okT M sc (.or a b) e = true) : (∃ x y p, e = .BoolOp .Or [x, y] p ∧ (okT M sc a x && okT M sc b y) = true) ∨ ∃ x y z r p, e = .BoolOp .Or (x :: y :: z :: r) p ∧ (okT M sc a x && okT M sc b (.BoolOp .Or (y :: z :: r) p)) = true := by
  cases e with
  | BoolOp o vs p =>
    cases o with
    | Or =>
      match vs, h with
      | [], h => exact Bool.noConfusion h
      | [x], h => exact Bool.noConfusion h
      | [x, y], h => exact .inl ⟨_, _, _, rfl, h⟩
      | x :: y :: z :: r, h => exact .inr ⟨_, _, _, _, _, rfl, h⟩
    | And => exact Bool.noConfusion h
  | _ => exact Bool.noConfusion h
theorem ivt_not {a : CT} (h : okT M sc (.not a) e = true) : ∃ x p, e = .UnaryOp .Not x p ∧ okT M sc a x = true := by
  cases e with
  | UnaryOp o x p => cases o <;> first | exact Bool.noConfusion h | exact ⟨_, _, rfl, h⟩
  | _ => exact Bool.noConfusion h
theorem ivi_r1 {a : CE} (h : okI M sc (.r1 a) e = true) : ∃ p x q, e = .Call (.Name "range" p) [x] [] q ∧ (glB sc "range" && okE M sc a x && noStar x) = true := by
  cases e with
  | Call g es ks q =>
    cases g with
    | Name f p =>
      match es, ks, h with
      | [y], [], h =>
        have h : (glB sc f && decide (("range" : Str) = f) && okE M sc a y && noStar y) = true := h
        simp only [Bool.and_eq_true, decide_eq_true_eq] at h
        obtain ⟨⟨⟨h1, rfl⟩, h2⟩, h3⟩ := h
        exact ⟨_, _, _, rfl, by simp [h1, h2, h3]⟩
      | [], _, h => exact Bool.noConfusion h
      | [_], _ :: _, h => exact Bool.noConfusion h
      | _ :: _ :: _, _, h => exact Bool.noConfusion h
    | _ => exact Bool.noConfusion h
  | _ => exact Bool.noConfusion h
theorem ivi_r2 {a b : CE} (h : okI M sc (.r2 a b) e = true) : ∃ p x y q, e = .Call (.Name "range" p) [x, y] [] q ∧ (glB sc "range" && okE M sc a x && okE M sc b y && noStar x && noStar y) = true := by
  cases e with
  | Call g es ks q =>
    cases g with
    | Name f p =>
      match es, ks, h with
      | [x, y], [], h =>
        have h : (glB sc f && decide (("range" : Str) = f) && okE M sc a x && okE M sc b y && noStar x && noStar y) = true := h
        simp only [Bool.and_eq_true, decide_eq_true_eq] at h
        obtain ⟨⟨⟨⟨⟨h1, rfl⟩, h2⟩, h3⟩, h4⟩, h5⟩ := h
        exact ⟨_, _, _, _, rfl, by simp [h1, h2, h3, h4, h5]⟩
      | [], _, h => exact Bool.noConfusion h
      | [_], _, h => exact Bool.noConfusion h
      | [_, _], _ :: _, h => exact Bool.noConfusion h
      | _ :: _ :: _ :: _, _, h => exact Bool.noConfusion h
    | _ => exact Bool.noConfusion h
  | _ => exact Bool.noConfusion h
end
end NK

namespace NK
open PySem L2
theorem and_iff {a b : Bool} (h : (a && b) = true) : a = true ∧ b = true := by simpa using h
theorem okL_nil {M : Nm} {sc : Scope} {c : CL} (h : okL M sc c [] = true) : c = .nil := by
  cases c <;> first | rfl | exact Bool.noConfusion h
theorem evs_nil {M : Nm} {sc : Scope} {c : CL} {T : Tb} {Γ : List Sl} {ds : List D} (h : okL M sc c [] = true) (hv : evs T Γ c = .ok ds) : ds = [] := by
  rw [okL_nil h] at hv
  simp only [evs] at hv
  cases hv
  rfl
theorem iv_blk {M : Nm} {sc scope : Scope} {x : Str} {i : Nat} (h : blkC M.N sc scope [(x, i)] = true) : scope.kind = .function := (blkOk_by h).kind
section
variable {M : Nm} {T : Tb} {k : Nat}
mutual
theorem sE : ∀ (c : CE) {X : Cx} {Γ : List Sl} {e : Expr} {r : R}, Cok X M T k → okE M X.env.scope c e = true → ev T Γ c = .ok r → SndE X Γ e r
  | .var i, X, Γ, e, r, C, hok, h => by
    obtain ⟨x, p, rfl, q⟩ := iv_var hok
    obtain ⟨q, q3⟩ := and_iff q
    obtain ⟨q1, q2⟩ := and_iff q
    exact snd_var (by rw [C.hN]; exact of_decide_eq_true q2) (visB_vis q1) (nmB_d q3).1 (nmB_d q3).2 h
  | .int i, X, Γ, e, r, C, hok, h => by
    obtain ⟨a, b, rfl⟩ := iv_int hok
    simp only [ev] at h; cases h
    exact fun σ F H rel => .of pe_int (.int rel.sub)
  | .str i, X, Γ, e, r, C, hok, h => by
    obtain ⟨a, b, rfl⟩ := iv_str hok
    simp only [ev] at h; cases h
    exact fun σ F H rel => .of pe_str (.str rel.sub)
  | .bl i, X, Γ, e, r, C, hok, h => by
    obtain ⟨a, b, rfl⟩ := iv_bl hok
    simp only [ev] at h; cases h
    exact fun σ F H rel => .of pe_bl (.bl rel.sub)
  | .non, X, Γ, e, r, C, hok, h => by
    obtain ⟨a, b, rfl⟩ := iv_non hok
    simp only [ev] at h; cases h
    exact fun σ F H rel => .of pe_non (.non rel.sub)
  | .glo j, X, Γ, e, r, C, hok, h => by
    obtain ⟨x, p, rfl, q⟩ := iv_glo hok
    obtain ⟨q, q3⟩ := and_iff q
    obtain ⟨q1, q2⟩ := and_iff q
    exact snd_glo C q1 (of_decide_eq_true q2) q3 h
  | .bin op a b, X, Γ, e, r, C, hok, h => by
    obtain ⟨x, o, y, p, rfl, q⟩ := iv_bin hok
    obtain ⟨q, q3⟩ := and_iff q
    obtain ⟨q1, q2⟩ := and_iff q
    have q1 := of_decide_eq_true q1
    subst q1
    simp only [ev] at h
    obtain ⟨dx, h1, h⟩ := Res.bind_ok h
    obtain ⟨dy, h2, h⟩ := Res.bind_ok h
    exact snd_bin (snd_pk C.hN q2 (fun r hr => sE a C q2 hr) h1) (snd_pk C.hN q3 (fun r hr => sE b C q3 hr) h2) h
  | .neg a, X, Γ, e, r, C, hok, h => by
    obtain ⟨x, p, rfl, q⟩ := iv_neg hok
    simp only [ev] at h
    obtain ⟨dx, h1, h⟩ := Res.bind_ok h
    split at h <;> cases h
    exact snd_neg (sE a C q h1)
  | .notv a, X, Γ, e, r, C, hok, h => by
    obtain ⟨x, p, rfl, q⟩ := iv_notv hok
    simp only [ev] at h
    obtain ⟨dx, h1, h⟩ := Res.bind_ok h
    split at h <;> cases h
    exact snd_notv (sE a C q h1)
  | .andv a b, X, Γ, e, r, C, hok, h => by
    simp only [ev] at h
    obtain ⟨dx, h1, h⟩ := Res.bind_ok h
    split at h <;> try cases h
    rename_i c
    rcases iv_andv hok with ⟨x, y, p, rfl, q⟩ | ⟨x, y, z, rr, p, rfl, q⟩
    · obtain ⟨q1, q2⟩ := and_iff q
      refine snd_and (sE a C q1 h1) (fun hc => snd_one (sE b C q2 ?_)) (fun hc => ?_)
      · subst hc; simpa using h
      · subst hc; simp at h; exact h.symm
    · obtain ⟨q1, q2⟩ := and_iff q
      refine snd_and (sE a C q1 h1) (fun hc => sE b C q2 ?_) (fun hc => ?_)
      · subst hc; simpa using h
      · subst hc; simp at h; exact h.symm
  | .orv a b, X, Γ, e, r, C, hok, h => by
    simp only [ev] at h
    obtain ⟨dx, h1, h⟩ := Res.bind_ok h
    split at h <;> try cases h
    rename_i c
    rcases iv_orv hok with ⟨x, y, p, rfl, q⟩ | ⟨x, y, z, rr, p, rfl, q⟩
    · obtain ⟨q1, q2⟩ := and_iff q
      refine snd_or (sE a C q1 h1) (fun hc => snd_one (sE b C q2 ?_)) (fun hc => ?_)
      · subst hc; simpa using h
      · subst hc; simp at h; exact h.symm
    · obtain ⟨q1, q2⟩ := and_iff q
      refine snd_or (sE a C q1 h1) (fun hc => sE b C q2 ?_) (fun hc => ?_)
      · subst hc; simpa using h
      · subst hc; simp at h; exact h.symm
  | .cmp op a b, X, Γ, e, r, C, hok, h => by
    obtain ⟨x, o, y, p, rfl, q⟩ := iv_cmp hok
    obtain ⟨q, q4⟩ := and_iff q
    obtain ⟨q, q3⟩ := and_iff q
    obtain ⟨q1, q2⟩ := and_iff q
    have q1 := of_decide_eq_true q1
    subst q1
    simp only [ev] at h
    obtain ⟨dx, h1, h⟩ := Res.bind_ok h
    obtain ⟨dy, h2, h⟩ := Res.bind_ok h
    obtain ⟨z, h3, h⟩ := Res.bind_ok h
    cases h
    exact snd_cmp (snd_pk C.hN q2 (fun r hr => sE a C q2 hr) h1) (snd_pk C.hN q3 (fun r hr => sE b C q3 hr) h2) h3 q4
  | .chain o1 o2 a b c, X, Γ, e, r, C, hok, h => by
    obtain ⟨x, p1, p2, y, w, p, rfl, q⟩ := iv_chain hok
    obtain ⟨q, q7⟩ := and_iff q
    obtain ⟨q, q6⟩ := and_iff q
    obtain ⟨q, q5⟩ := and_iff q
    obtain ⟨q, q4⟩ := and_iff q
    obtain ⟨q, q3⟩ := and_iff q
    obtain ⟨q1, q2⟩ := and_iff q
    have q1 := of_decide_eq_true q1
    have q2 := of_decide_eq_true q2
    subst q1 q2
    simp only [ev] at h
    obtain ⟨dx, h1, h⟩ := Res.bind_ok h
    obtain ⟨dy, h2, h⟩ := Res.bind_ok h
    obtain ⟨z, h3, h⟩ := Res.bind_ok h
    refine snd_chain (snd_pk C.hN q3 (fun r hr => sE a C q3 hr) h1) (snd_pk C.hN q4 (fun r hr => sE b C q4 hr) h2) h3 q7 (fun hz => ?_) (fun hz => ?_)
    · subst hz
      rw [if_pos rfl] at h
      obtain ⟨dw, h4, h⟩ := Res.bind_ok h
      obtain ⟨z', h5, h⟩ := Res.bind_ok h
      cases h
      exact ⟨dw, z', snd_pk C.hN q5 (fun r hr => sE c C q5 hr) h4, h5, rfl⟩
    · subst hz
      rw [if_neg (by decide)] at h
      cases h
      rfl
  | .ifx t a b, X, Γ, e, r, C, hok, h => by
    obtain ⟨c, x, y, p, rfl, q⟩ := iv_ifx hok
    obtain ⟨q, q3⟩ := and_iff q
    obtain ⟨q1, q2⟩ := and_iff q
    simp only [ev] at h
    obtain ⟨z, h1, h⟩ := Res.bind_ok h
    refine snd_ifx (sT t C q1 h1) (fun hz => sE a C q2 ?_) (fun hz => sE b C q3 ?_)
    · subst hz; simpa using h
    · subst hz; simpa using h
  | .tup l, X, Γ, e, r, C, hok, h => by
    obtain ⟨es, a, b, rfl, q⟩ := iv_tup hok
    simp only [ev] at h
    obtain ⟨ds, h1, h⟩ := Res.bind_ok h
    obtain ⟨hz, h⟩ := need_ok h
    cases h
    exact snd_tup (sL l C q h1) hz
  | .lst l, X, Γ, e, r, C, hok, h => by
    obtain ⟨es, b, rfl, q⟩ := iv_lst hok
    simp only [ev] at h
    obtain ⟨ds, h1, h⟩ := Res.bind_ok h
    obtain ⟨hz, h⟩ := need_ok h
    cases h
    exact snd_lst (sL l C q h1) hz
  | .idx a b, X, Γ, e, r, C, hok, h => by
    obtain ⟨x, y, p, rfl, q⟩ := iv_idx hok
    obtain ⟨q, q3⟩ := and_iff q
    obtain ⟨q1, q2⟩ := and_iff q
    simp only [ev] at h
    obtain ⟨dx, h1, h⟩ := Res.bind_ok h
    obtain ⟨dy, h2, h⟩ := Res.bind_ok h
    exact snd_idx (snd_pk C.hN q1 (fun r hr => sE a C q1 hr) h1) (snd_pk C.hN q2 (fun r hr => sE b C q2 hr) h2) h q3
  | .sli a lo hi, X, Γ, e, r, C, hok, h => by
    obtain ⟨x, l, u, p, q', rfl, q⟩ := iv_sli hok
    obtain ⟨q, q3⟩ := and_iff q
    obtain ⟨q1, q2⟩ := and_iff q
    simp only [ev] at h
    obtain ⟨dx, h1, h⟩ := Res.bind_ok h
    obtain ⟨ol, h2, h⟩ := Res.bind_ok h
    obtain ⟨oh, h3, h⟩ := Res.bind_ok h
    exact snd_sli (snd_pk C.hN q1 (fun r hr => sE a C q1 hr) h1) (sO lo C q2 h2) (sO hi C q3 h3) h
  | .call f l, X, Γ, e, r, C, hok, h => by
    obtain ⟨x, p, es, q', rfl, q⟩ := iv_call hok
    obtain ⟨q, q5⟩ := and_iff q
    obtain ⟨q, q4⟩ := and_iff q
    obtain ⟨q, q3⟩ := and_iff q
    obtain ⟨q1, q2⟩ := and_iff q
    simp only [ev] at h
    obtain ⟨ds, h1, h⟩ := Res.bind_ok h
    exact snd_call C q1 (of_decide_eq_true q2) q3 (sL l C q4 h1) q5 h (fun he => by subst he; exact evs_nil q4 h1)
  | .bi b a, X, Γ, e, r, C, hok, h => by
    obtain ⟨x, p, y, q', rfl, q⟩ := iv_bi hok
    obtain ⟨q, q4⟩ := and_iff q
    obtain ⟨q, q3⟩ := and_iff q
    obtain ⟨q1, q2⟩ := and_iff q
    have q2 := of_decide_eq_true q2
    subst q2
    simp only [ev] at h
    obtain ⟨dx, h1, h⟩ := Res.bind_ok h
    exact snd_bi C q1 (snd_pk C.hN q3 (fun r hr => sE a C q3 hr) h1) q4 h
  | .bj b a c, X, Γ, e, r, C, hok, h => by
    obtain ⟨x, p, y, z, q', rfl, q⟩ := iv_bj hok
    obtain ⟨q, q6⟩ := and_iff q
    obtain ⟨q, q5⟩ := and_iff q
    obtain ⟨q, q4⟩ := and_iff q
    obtain ⟨q, q3⟩ := and_iff q
    obtain ⟨q1, q2⟩ := and_iff q
    have q2 := of_decide_eq_true q2
    subst q2
    simp only [ev] at h
    obtain ⟨dx, h1, h⟩ := Res.bind_ok h
    obtain ⟨dy, h2, h⟩ := Res.bind_ok h
    exact snd_bj C q1 (snd_pk C.hN q3 (fun r hr => sE a C q3 hr) h1) (snd_pk C.hN q4 (fun r hr => sE c C q4 hr) h2) q5 q6 h
  | .isi a t, X, Γ, e, r, C, hok, h => by
    obtain ⟨x, p, y, z, pz, q', rfl, q⟩ := iv_isi hok
    obtain ⟨q, q6⟩ := and_iff q
    obtain ⟨q, q5⟩ := and_iff q
    obtain ⟨q, q4⟩ := and_iff q
    obtain ⟨q, q3⟩ := and_iff q
    obtain ⟨q1, q2⟩ := and_iff q
    have q2 := of_decide_eq_true q2
    have q6 := of_decide_eq_true q6
    subst q2 q6
    simp only [ev] at h
    obtain ⟨dx, h1, h⟩ := Res.bind_ok h
    exact snd_isi C q1 q5 (snd_pk C.hN q3 (fun r hr => sE a C q3 hr) h1) q4 h
  | .mt1 m o a, X, Γ, e, r, C, hok, h => by
    obtain ⟨x, nm, ap, y, q', rfl, q⟩ := iv_mt1 hok
    obtain ⟨q, q6⟩ := and_iff q
    obtain ⟨q, q5⟩ := and_iff q
    obtain ⟨q, q4⟩ := and_iff q
    obtain ⟨q, q3⟩ := and_iff q
    obtain ⟨q1, q2⟩ := and_iff q
    have q1 := of_decide_eq_true q1
    subst q1
    simp only [ev] at h
    obtain ⟨dx, h1, h⟩ := Res.bind_ok h
    obtain ⟨dy, h2, h⟩ := Res.bind_ok h
    exact snd_mt1 (snd_pk C.hN q2 (fun r hr => sE o C q2 hr) h1) (snd_pk C.hN q3 (fun r hr => sE a C q3 hr) h2) h q4 q5 q6
  | .lc e' i s, X, Γ, e, r, C, hok, h => by
    obtain ⟨elt, x, p, iter, scope, q', rfl, q⟩ := iv_lc hok
    obtain ⟨q, q6⟩ := and_iff q
    obtain ⟨q, q5⟩ := and_iff q
    obtain ⟨q, q4⟩ := and_iff q
    obtain ⟨q, q3⟩ := and_iff q
    obtain ⟨q1, q2⟩ := and_iff q
    simp only [ev] at h
    obtain ⟨ds, h1, h⟩ := Res.bind_ok h
    obtain ⟨out, h2, h⟩ := Res.bind_ok h
    obtain ⟨hz, h⟩ := need_ok h
    cases h
    intro σ F H rel
    refine .of (pe_lc (own := [(x, i)]) C.calm C.nd WI.pi (by rw [C.hN]; exact blkOk_by q3) (blk_pg C (of_decide_eq_true q1) q2) (fun _ _ _ _ _ => pts_nil) teB_pe (foldedSet_of q5)) ?_
    exact lc_read0 rel (sI s C q4 h1) h2 hz (fun d r hr => fun s H0 Cc cl fp => sE e' (C.blk (iv_blk q3)) q6 hr) fun v H' q => q
  | .lcc e' i s t, X, Γ, e, r, C, hok, h => by
    obtain ⟨elt, x, p, iter, c, scope, q', rfl, q⟩ := iv_lcc hok
    obtain ⟨q, q7⟩ := and_iff q
    obtain ⟨q, q6⟩ := and_iff q
    obtain ⟨q, q5⟩ := and_iff q
    obtain ⟨q, q4⟩ := and_iff q
    obtain ⟨q, q3⟩ := and_iff q
    obtain ⟨q1, q2⟩ := and_iff q
    simp only [ev] at h
    obtain ⟨ds, h1, h⟩ := Res.bind_ok h
    obtain ⟨out, h2, h⟩ := Res.bind_ok h
    obtain ⟨hz, h⟩ := need_ok h
    cases h
    intro σ F H rel
    refine .of (pe_lc (own := [(x, i)]) C.calm C.nd WI.pi (by rw [C.hN]; exact blkOk_by q3) (blk_pg C (of_decide_eq_true q1) q2) (fun _ _ _ _ _ => pts_one (ttB_pt _ _ _ _ _)) teB_pe (foldedSet_of q5)) ?_
    exact lc_read1 rel (sI s C q4 h1) h2 hz (fun d b hb => fun s H0 Cc cl fp => sT t (C.blk (iv_blk q3)) q7 hb) (fun d r hr => fun s H0 Cc cl fp => sE e' (C.blk (iv_blk q3)) q6 hr) fun v H' q => q
theorem sL : ∀ (c : CL) {X : Cx} {Γ : List Sl} {es : List Expr} {ds : List D}, Cok X M T k → okL M X.env.scope c es = true → evs T Γ c = .ok ds → SndL X Γ es ds
  | .nil, X, Γ, es, ds, C, hok, h => by
    cases es with
    | nil => simp only [evs] at h; cases h; exact snd_nil
    | cons _ _ => exact Bool.noConfusion hok
  | .cons e l, X, Γ, es, ds, C, hok, h => by
    cases es with
    | nil => exact Bool.noConfusion hok
    | cons x r =>
      have q : (okE M X.env.scope e x && noStar x && okL M X.env.scope l r) = true := hok
      obtain ⟨q, q3⟩ := and_iff q
      obtain ⟨q1, q2⟩ := and_iff q
      simp only [evs] at h
      obtain ⟨dx, h1, h⟩ := Res.bind_ok h
      obtain ⟨dr, h2, h⟩ := Res.bind_ok h
      cases h
      exact snd_cons (sE e C q1 h1) (sL l C q3 h2) q2
  | .star e l, X, Γ, es, ds, C, hok, h => by
    cases es with
    | nil => exact Bool.noConfusion hok
    | cons x r =>
      cases x with
      | Starred y p =>
        have q : (okE M X.env.scope e y && okL M X.env.scope l r) = true := hok
        obtain ⟨q1, q2⟩ := and_iff q
        simp only [evs] at h
        obtain ⟨dx, h1, h⟩ := Res.bind_ok h
        split at h <;> try cases h
        · obtain ⟨dr, h2, h⟩ := Res.bind_ok h
          cases h
          exact snd_star (snd_pk C.hN q1 (fun r hr => sE e C q1 hr) h1) (.inl rfl) (sL l C q2 h2)
        · obtain ⟨dr, h2, h⟩ := Res.bind_ok h
          cases h
          exact snd_star (snd_pk C.hN q1 (fun r hr => sE e C q1 hr) h1) (.inr rfl) (sL l C q2 h2)
      | _ => exact Bool.noConfusion hok
theorem sT : ∀ (c : CT) {X : Cx} {Γ : List Sl} {e : Expr} {b : Bool}, Cok X M T k → okT M X.env.scope c e = true → evt T Γ c = .ok b → SndT X Γ e b
  | .e c, X, Γ, e, b, C, hok, h => by
    simp only [evt] at h
    obtain ⟨dx, h1, h⟩ := Res.bind_ok h
    obtain ⟨q1, q2⟩ := ivt_e hok
    exact snd_te (snd_pk C.hN q2 (fun r hr => sE c C q2 hr) h1) h q1
  | .cmp op a b, X, Γ, e, r, C, hok, h => by
    obtain ⟨x, o, y, p, rfl, q⟩ := ivt_cmp hok
    obtain ⟨q, q4⟩ := and_iff q
    obtain ⟨q, q3⟩ := and_iff q
    obtain ⟨q1, q2⟩ := and_iff q
    have q1 := of_decide_eq_true q1
    subst q1
    simp only [evt] at h
    obtain ⟨dx, h1, h⟩ := Res.bind_ok h
    obtain ⟨dy, h2, h⟩ := Res.bind_ok h
    exact snd_tcmp (snd_pk C.hN q2 (fun r hr => sE a C q2 hr) h1) (snd_pk C.hN q3 (fun r hr => sE b C q3 hr) h2) h q4
  | .chain o1 o2 a b c, X, Γ, e, r, C, hok, h => by
    obtain ⟨x, p1, p2, y, w, p, rfl, q⟩ := ivt_chain hok
    obtain ⟨q, q7⟩ := and_iff q
    obtain ⟨q, q6⟩ := and_iff q
    obtain ⟨q, q5⟩ := and_iff q
    obtain ⟨q, q4⟩ := and_iff q
    obtain ⟨q, q3⟩ := and_iff q
    obtain ⟨q1, q2⟩ := and_iff q
    have q1 := of_decide_eq_true q1
    have q2 := of_decide_eq_true q2
    subst q1 q2
    simp only [evt] at h
    obtain ⟨dx, h1, h⟩ := Res.bind_ok h
    obtain ⟨dy, h2, h⟩ := Res.bind_ok h
    obtain ⟨z, h3, h⟩ := Res.bind_ok h
    refine snd_tchain (snd_pk C.hN q3 (fun r hr => sE a C q3 hr) h1) (snd_pk C.hN q4 (fun r hr => sE b C q4 hr) h2) h3 q7 (fun hz => ?_) (fun hz => ?_)
    · subst hz
      rw [if_pos rfl] at h
      obtain ⟨dw, h4, h⟩ := Res.bind_ok h
      exact ⟨dw, snd_pk C.hN q5 (fun r hr => sE c C q5 hr) h4, h⟩
    · subst hz
      rw [if_neg (by decide)] at h
      cases h
      rfl
  | .and a b, X, Γ, e, r, C, hok, h => by
    simp only [evt] at h
    obtain ⟨c, h1, h⟩ := Res.bind_ok h
    rcases ivt_and hok with ⟨x, y, p, rfl, q⟩ | ⟨x, y, z, rr, p, rfl, q⟩
    · obtain ⟨q1, q2⟩ := and_iff q
      refine snd_tand (sT a C q1 h1) (fun hc => snd_tand1 (sT b C q2 ?_)) (fun hc => ?_)
      · subst hc; simpa using h
      · subst hc; simp at h; exact h
    · obtain ⟨q1, q2⟩ := and_iff q
      refine snd_tand (sT a C q1 h1) (fun hc => sT b C q2 ?_) (fun hc => ?_)
      · subst hc; simpa using h
      · subst hc; simp at h; exact h
  | .or a b, X, Γ, e, r, C, hok, h => by
    simp only [evt] at h
    obtain ⟨c, h1, h⟩ := Res.bind_ok h
    rcases ivt_or hok with ⟨x, y, p, rfl, q⟩ | ⟨x, y, z, rr, p, rfl, q⟩
    · obtain ⟨q1, q2⟩ := and_iff q
      refine snd_tor (sT a C q1 h1) (fun hc => snd_tor1 (sT b C q2 ?_)) (fun hc => ?_)
      · subst hc; simpa using h
      · subst hc; simp at h; exact h
    · obtain ⟨q1, q2⟩ := and_iff q
      refine snd_tor (sT a C q1 h1) (fun hc => sT b C q2 ?_) (fun hc => ?_)
      · subst hc; simpa using h
      · subst hc; simp at h; exact h
  | .not a, X, Γ, e, r, C, hok, h => by
    simp only [evt, Res.map] at h
    obtain ⟨c, h1, h⟩ := Res.bind_ok h
    cases h
    obtain ⟨x, p, rfl, q⟩ := ivt_not hok
    exact snd_tnot (sT a C q h1)
theorem sO : ∀ (c : CP) {X : Cx} {Γ : List Sl} {e : Option Expr} {o : Option Int}, Cok X M T k → okP M X.env.scope c e = true → evo T Γ c = .ok o → SndO X Γ e o
  | .no, X, Γ, e, o, C, hok, h => by
    cases e with
    | none => simp only [evo] at h; cases h; exact snd_ono
    | some _ => exact Bool.noConfusion hok
  | .so c, X, Γ, e, o, C, hok, h => by
    cases e with
    | none => exact Bool.noConfusion hok
    | some x =>
      simp only [evo] at h
      obtain ⟨dx, h1, h⟩ := Res.bind_ok h
      split at h <;> cases h
      exact snd_oso (sE c C hok h1)
theorem sI : ∀ (c : CI) {X : Cx} {Γ : List Sl} {e : Expr} {ds : List D}, Cok X M T k → okI M X.env.scope c e = true → evi T Γ c = .ok ds → SndI X Γ e ds
  | .e c, X, Γ, e, ds, C, hok, h => by
    simp only [evi] at h
    obtain ⟨r, h1, h⟩ := Res.bind_ok h
    have hok : okE M X.env.scope c e = true := by cases e <;> exact hok
    split at h <;> cases h
    · exact snd_ie (sE c C hok h1) (.inl (by assumption))
    · exact snd_ie (sE c C hok h1) (.inr (by assumption))
  | .s c, X, Γ, e, ds, C, hok, h => by
    simp only [evi] at h
    obtain ⟨r, h1, h⟩ := Res.bind_ok h
    have hok : okE M X.env.scope c e = true := by cases e <;> exact hok
    split at h <;> try cases h
    obtain ⟨hz, h⟩ := need_ok h
    cases h
    exact snd_is (sE c C hok h1) (by assumption)
  | .r1 a, X, Γ, e, ds, C, hok, h => by
    simp only [evi] at h
    obtain ⟨r, h1, h⟩ := Res.bind_ok h
    split at h <;> try cases h
    obtain ⟨hz, h⟩ := need_ok h
    cases h
    obtain ⟨p, x, q', rfl, q⟩ := ivi_r1 hok
    obtain ⟨q, q3⟩ := and_iff q
    obtain ⟨q1, q2⟩ := and_iff q
    exact snd_ir1 C q1 (sE a C q2 h1) q3 hz.1 hz.2
  | .r2 a b, X, Γ, e, ds, C, hok, h => by
    simp only [evi] at h
    obtain ⟨r, h1, h⟩ := Res.bind_ok h
    obtain ⟨r', h2, h⟩ := Res.bind_ok h
    split at h <;> try cases h
    obtain ⟨hz, h⟩ := need_ok h
    cases h
    obtain ⟨p, x, y, q', rfl, q⟩ := ivi_r2 hok
    obtain ⟨q, q5⟩ := and_iff q
    obtain ⟨q, q4⟩ := and_iff q
    obtain ⟨q, q3⟩ := and_iff q
    obtain ⟨q1, q2⟩ := and_iff q
    exact snd_ir2 C q1 (sE a C q2 h1) (sE b C q3 h2) q4 q5 hz.1.1 hz.1.2 hz.2.1 hz.2.2
end
end
end NK

namespace NK
open PySem L2

/-! ### slots that change -/
def Own0 (H0 : Hp) (Γ : List Sl) (σ : St) : Prop := ∀ (i : Nat) (l : List D) (p : Addr), Γ[i]? = some (.own l) → σ[i]? = some (some (.ref p)) → H0 p = none
def St0 (K : PySem.W.Frag) (Fb F0 H0 : Hp) (Γ : List Sl) (σ : St) (H : Hp) : Prop := ∃ F, Rel K Γ σ F H ∧ Own0 H0 Γ σ ∧ Grow F0 H0 F H ∧ Same Fb F
theorem get_set {α : Type} {l : List α} {i j : Nat} {a b : α} (h : (l.set i a)[j]? = some b) : (i = j ∧ b = a ∧ i < l.length) ∨ (i ≠ j ∧ l[j]? = some b) := by
  by_cases e : i = j
  · subst e
    by_cases hi : i < l.length
    · rw [List.getElem?_set_self hi] at h; cases h; exact .inl ⟨rfl, rfl, hi⟩
    · rw [List.set_eq_of_length_le (by omega)] at h
      exact absurd (List.getElem?_eq_some_iff.mp h).1 (by omega)
  · rw [List.getElem?_set_ne e] at h; exact .inr ⟨e, h⟩
section
variable {K : PySem.W.Frag} {F F' H H' F0 H0 Fb : Hp} {Γ : List Sl} {σ : St} {i : Nat}
theorem Rel.setR {r : R} {v : V} (rel : Rel K Γ σ F H) (g : Grow F H F' H') (h : RpR K H F' H' r v) : Rel K (Γ.set i r.sl) (σ.set i (some v)) F' H' := by
  cases r with
  | val d => exact (rel.grow g).setv h
  | own l =>
    obtain ⟨p, vs, rfl, hp, fp, hp', hv⟩ := h
    have rel' := rel.grow g
    refine ⟨rel'.sub, by simp [rel.len], fun j s e => ?_, fun j k l1 m q e1 e2 e3 e4 => ?_⟩
    · rcases get_set e with ⟨rfl, rfl, hi⟩ | ⟨ne, e⟩
      · exact ⟨_, List.getElem?_set_self (by rw [← rel.len]; exact hi), p, vs, rfl, hp', fp, hv⟩
      · obtain ⟨o, h1, h2⟩ := rel'.at_ j s e
        exact ⟨o, by rw [List.getElem?_set_ne ne]; exact h1, h2⟩
    · have key : ∀ (j : Nat) (m : List D), i ≠ j → Γ[j]? = some (.own m) → σ[j]? = some (some (.ref p)) → False := fun j m ne e1 e3 => by
        obtain ⟨o, h1, q, us, h2, h3, _⟩ := rel.at_ j _ e1
        rw [e3] at h1; cases h1; cases h2
        rw [hp] at h3; cases h3
      rcases get_set e1 with ⟨rfl, _, hi⟩ | ⟨n1, e1⟩
      · rcases get_set e2 with ⟨rfl, _, _⟩ | ⟨n2, e2⟩
        · rfl
        · rw [List.getElem?_set_self (by rw [← rel.len]; exact hi)] at e3
          cases e3
          rw [List.getElem?_set_ne n2] at e4
          exact (key k m n2 e2 e4).elim
      · rw [List.getElem?_set_ne n1] at e3
        rcases get_set e2 with ⟨rfl, _, hi⟩ | ⟨n2, e2⟩
        · rw [List.getElem?_set_self (by rw [← rel.len]; exact hi)] at e4
          cases e4
          exact (key j l1 n1 e1 e3).elim
        · rw [List.getElem?_set_ne n2] at e4
          exact rel.dis j k l1 m q e1 e2 e3 e4
theorem Own0.setR {r : R} {v : V} (o : Own0 H0 Γ σ) (len : Γ.length = σ.length) (s : Same H0 H) (h : RpR K H F' H' r v) : Own0 H0 (Γ.set i r.sl) (σ.set i (some v)) := by
  intro j l p e1 e2
  rcases get_set e1 with ⟨rfl, e, hi⟩ | ⟨ne, e1⟩
  · rw [List.getElem?_set_self (by rw [← len]; exact hi)] at e2
    cases e2
    cases r with
    | val d => cases e
    | own l' =>
      obtain ⟨q, vs, e3, hp, _⟩ := h
      cases e3
      exact s.free hp
  · rw [List.getElem?_set_ne ne] at e2
    exact o j l p e1 e2
theorem St0.setR {r : R} {v : V} (rel : Rel K Γ σ F H) (o : Own0 H0 Γ σ) (g0 : Grow F0 H0 F H) (sb : Same Fb F) (q : PoE K F H r v H') : St0 K Fb F0 H0 (Γ.set i r.sl) (σ.set i (some v)) H' := by
  obtain ⟨F', g, h⟩ := q
  exact ⟨F', rel.setR g h, o.setR rel.len g0.h h, g0.trans g, sb.trans g.f⟩
theorem St0.grow (rel : Rel K Γ σ F H) (o : Own0 H0 Γ σ) (g0 : Grow F0 H0 F H) (sb : Same Fb F) (g : Grow F H F' H') : St0 K Fb F0 H0 Γ σ H' := ⟨F', rel.grow g, o, g0.trans g, sb.trans g.f⟩
/-- a list that is being filled is changed -/
theorem St0.mut {l l' : List D} {p : Addr} {vs' : List V} (rel : Rel K Γ σ F H) (o : Own0 H0 Γ σ) (g0 : Grow F0 H0 F H) (sb : Same Fb F) (e1 : Γ[i]? = some (.own l)) (e2 : σ[i]? = some (some (.ref p))) (hv : Rps K F l' vs') :
    St0 K Fb F0 H0 (Γ.set i (.own l')) σ (upd H p (.lst vs')) := by
  obtain ⟨o', h1, q, us, h2, h3, h4, h5⟩ := rel.at_ i _ e1
  rw [e2] at h1; cases h1; cases h2
  have h0 : H0 p = none := o i l p e1 e2
  have hi : i < Γ.length := (List.getElem?_eq_some_iff.mp e1).1
  refine ⟨F, ⟨fun b u q => by rw [upd_ne (ne_of_none q h4)]; exact rel.sub _ _ q, by simp [rel.len], fun j s e => ?_, fun j k l1 m q a1 a2 a3 a4 => ?_⟩, fun j l1 q a1 a2 => ?_, g0.write h0 h4, sb⟩
  · rcases get_set e with ⟨rfl, rfl, _⟩ | ⟨ne, e⟩
    · exact ⟨_, e2, p, vs', rfl, upd_same, h4, hv⟩
    · obtain ⟨o', k1, k2⟩ := rel.at_ j s e
      refine ⟨o', k1, ?_⟩
      cases s with
      | no => trivial
      | val d => exact k2
      | own m =>
        obtain ⟨q, ws, rfl, k3, k4, k5⟩ := k2
        have nq : q ≠ p := fun z => by subst z; exact ne (rel.dis i j l m q e1 e e2 k1)
        exact ⟨q, ws, rfl, by rw [upd_ne nq]; exact k3, k4, k5⟩
  · have fix : ∀ (j : Nat) (l1 : List D), (Γ.set i (Sl.own l'))[j]? = some (.own l1) → ∃ m, Γ[j]? = some (.own m) := fun j l1 a => by
      rcases get_set a with ⟨rfl, _, _⟩ | ⟨_, a⟩
      · exact ⟨l, e1⟩
      · exact ⟨l1, a⟩
    obtain ⟨m1, b1⟩ := fix j l1 a1
    obtain ⟨m2, b2⟩ := fix k m a2
    exact rel.dis j k m1 m2 q b1 b2 a3 a4
  · rcases get_set a1 with ⟨rfl, _, _⟩ | ⟨_, a1⟩
    · exact o i l q e1 a2
    · exact o j l1 q a1 a2
/-- a list that was being filled is settled -/
theorem St0.frz (h : St0 K Fb F0 H0 Γ σ H) : St0 K Fb F0 H0 (frzS Γ i) σ H := by
  obtain ⟨F, rel, o, g0, sb⟩ := h
  unfold frzS
  split
  · rename_i l e1
    obtain ⟨o', h1, p, us, rfl, h3, h4, h5⟩ := rel.at_ i _ e1
    have h0 : H0 p = none := o i l p e1 h1
    have sF : Same F (upd F p (.lst us)) := same_upd h4
    refine ⟨upd F p (.lst us), ⟨(g0.settle h0 h3 h4).fh, by simp [rel.len], fun j s e => ?_, fun j k l1 m q a1 a2 a3 a4 => ?_⟩, fun j l1 q a1 a2 => ?_, g0.settle h0 h3 h4, sb.trans sF⟩
    · rcases get_set e with ⟨rfl, rfl, _⟩ | ⟨ne, e⟩
      · refine ⟨_, h1, _, rfl, ?_⟩
        unfold Rp
        exact ⟨p, us, rfl, upd_same, Rps.mono sF _ h5⟩
      · obtain ⟨o', k1, k2⟩ := rel.at_ j s e
        refine ⟨o', k1, ?_⟩
        cases s with
        | no => trivial
        | val d => obtain ⟨v, k3, k4⟩ := k2; exact ⟨v, k3, Rp.mono sF _ k4⟩
        | own m =>
          obtain ⟨q, ws, rfl, k3, k4, k5⟩ := k2
          have nq : q ≠ p := fun z => by subst z; exact ne (rel.dis i j l m q e1 e h1 k1)
          exact ⟨q, ws, rfl, k3, by rw [upd_ne nq]; exact k4, Rps.mono sF _ k5⟩
    · have fix : ∀ (j : Nat) (l1 : List D), (Γ.set i (Sl.val (.lst l)))[j]? = some (.own l1) → Γ[j]? = some (.own l1) := fun j l1 a => by
        rcases get_set a with ⟨rfl, z, _⟩ | ⟨_, a⟩
        · cases z
        · exact a
      exact rel.dis j k l1 m q (fix j l1 a1) (fix k m a2) a3 a4
    · rcases get_set a1 with ⟨rfl, z, _⟩ | ⟨_, a1⟩
      · cases z
      · exact o j l1 q a1 a2
  · exact ⟨F, rel, o, g0, sb⟩
end

/-! ### the checker of statements -/
def swB (sc : Scope) (t : Str) (p : Pos) (v : Expr) : Bool := match v with
  | .ListComp _ _ s q => (sc.names.lookup t == some .local) && (p.line == q.line) && !(s.names.any fun (n, k) => n == t && (k == .local || k == .cell))
  | .SetComp _ _ s q => true
  | .DictComp _ _ _ s q => true
  | _ => false
def noComp : Expr → Bool
  | .ListComp _ _ _ _ => false
  | .SetComp _ _ _ _ => false
  | .DictComp _ _ _ _ _ => false
  | _ => true
mutual
def okS (M : Nm) (sc : Scope) : CS → Stmt → Bool
  | .set i e, .Assign [.Name x p] v _ => decide (M.N[i]? = some x) && locB sc x && okE M sc e v
  | .sidx i ix e, .Assign [.Subscript (.Name x _) y _] v _ => visB sc x && decide (M.N[i]? = some x) && nmB x && okE M sc ix y && okE M sc e v && noSlice y
  | .app i e, .Expr (.Call (.Attribute (.Name x _) nm ap) [y] [] q) _ => visB sc x && decide (M.N[i]? = some x) && nmB x && decide (nm = ("append" : Str)) && okE M sc e y && noStar y && (ap.endLine == q.line)
  | .ex e, .Expr v _ => okE M sc e v && noComp v
  | .ret e, .Return (some v) _ => okE M sc e v
  | .retv i, .Return (some (.Name x _)) _ => visB sc x && decide (M.N[i]? = some x) && nmB x
  | .ret0, .Return none _ => true
  | .ite t a b, .If c x y _ => okT M sc t c && okB M sc a x && okB M sc b y
  | .fr i s b, .For (.Name x _) iter body [] _ => decide (M.N[i]? = some x) && locB sc x && okI M sc s iter && noSet iter && okB M sc b body
  | .brk, .Break _ => true
  | .cnt, .Continue _ => true
  | .pas, .Pass _ => true
  | _, _ => false
def okB (M : Nm) (sc : Scope) : CB → List Stmt → Bool
  | .nil, [] => true
  | .cons s b, x :: r => okS M sc s x && okB M sc b r
  | .frz _ b, sts => okB M sc b sts
  | _, _ => false
end
section
variable {env : Env} {l : Nat}
theorem sw_none {v : Expr} (h : noComp v = true) : swapsWith v none l env = pure false := by
  cases v <;> first | rfl | (simp [noComp] at h)
theorem sw_sub {v o i : Expr} {p : Pos} : swapsWithSole [.Subscript o i p] v l env = pure false := by
  cases v <;> rfl
theorem sws_sub {v o i : Expr} {p : Pos} : swappedStores [.Subscript o i p] v env = pure none := by
  cases v <;> rfl
theorem sw_false {v : Expr} {t : Str} {p : Pos} (hk : env.scope.kind = .function) (h : swB env.scope t p v = false) : swapsWith v (some (.Name t p)) l env = pure false := by
  cases v <;> first | rfl | (simp [swB] at h; done) | skip
  rename_i elt gs s q
  have hb : env.blockKind = .function := by unfold Env.blockKind; rw [hk]; rfl
  have h : ((env.scope.names.lookup t == some .local) && (p.line == q.line) && !(s.names.any fun (n, k) => n == t && (k == .local || k == .cell))) = false := h
  have ky : env.kindOf t = env.scope.names.lookup t := rfl
  unfold swapsWith
  simp only [hb, ky, Expr.pos]
  show pure ((ScopeKind.function == ScopeKind.function) && _ && _ && _) = _
  have : (ScopeKind.function == ScopeKind.function) = true := rfl
  rw [this, Bool.true_and, h]
end
def PostS (K : PySem.W.Frag) (Fb F0 H0 : Hp) (f : Fl) : Ends where
  nx := fun σ H => ∃ Γ, f = .nx Γ ∧ St0 K Fb F0 H0 Γ σ H
  rt := fun v H => ∃ r, f = .rt r ∧ PoE K F0 H0 r v H
  bk := fun σ H => ∃ Γ, f = .bk Γ ∧ St0 K Fb F0 H0 Γ σ H
  ct := fun σ H => ∃ Γ, f = .ct Γ ∧ St0 K Fb F0 H0 Γ σ H
theorem assign_sub {o i : Expr} {pos : Pos} {env : Env} (h : noSlice i = true) : ∀ v, assign (.Subscript o i pos) env v = (do
      let ov ← holding [v] (eval o env)
      let iv ← holding [v, ov] (eval i env)
      standAt pos
      holding [v, ov, iv] (setItem ov iv v)
      release [v, ov, iv] []) := by
  intro v
  cases i <;> first | rfl | (simp [noSlice] at h)
end NK

namespace NK
open PySem L2
section
variable {M : Nm} {sc : Scope} {e : Stmt}
theorem ivs_set {i : Nat} {c : CE} (h : okS M sc (.set i c) e = true) : ∃ x p v q, e = .Assign [.Name x p] v q ∧ (decide (M.N[i]? = some x) && locB sc x && okE M sc c v) = true := by
  cases e with
  | Assign ts v q =>
    match ts, h with
    | [t], h => cases t <;> first | exact Bool.noConfusion h | exact ⟨_, _, _, _, rfl, h⟩
    | [], h => exact Bool.noConfusion h
    | t :: _ :: _, h => cases t <;> exact Bool.noConfusion h
  | _ => exact Bool.noConfusion h
theorem ivs_sidx {i : Nat} {ix c : CE} (h : okS M sc (.sidx i ix c) e = true) : ∃ x p y r v q, e = .Assign [.Subscript (.Name x p) y r] v q ∧ (visB sc x && decide (M.N[i]? = some x) && nmB x && okE M sc ix y && okE M sc c v && noSlice y) = true := by
  cases e with
  | Assign ts v q =>
    match ts, h with
    | [t], h =>
      cases t with
      | Subscript o y r => cases o <;> first | exact Bool.noConfusion h | exact ⟨_, _, _, _, _, _, rfl, h⟩
      | _ => exact Bool.noConfusion h
    | [], h => exact Bool.noConfusion h
    | t :: _ :: _, h =>
      cases t with
      | Subscript o y r => cases o <;> exact Bool.noConfusion h
      | _ => exact Bool.noConfusion h
  | _ => exact Bool.noConfusion h
theorem ivs_app {i : Nat} {c : CE} (h : okS M sc (.app i c) e = true) : ∃ x p ap y q r, e = .Expr (.Call (.Attribute (.Name x p) "append" ap) [y] [] q) r ∧ (visB sc x && decide (M.N[i]? = some x) && nmB x && okE M sc c y && noStar y && (ap.endLine == q.line)) = true := by
  cases e with
  | Expr v r =>
    cases v with
    | Call g es ks q =>
      cases g with
      | Attribute o nm ap =>
        cases o with
        | Name x p =>
          match es, ks, h with
          | [y], [], h =>
            have h : (visB sc x && decide (M.N[i]? = some x) && nmB x && decide (nm = ("append" : Str)) && okE M sc c y && noStar y && (ap.endLine == q.line)) = true := h
            simp only [Bool.and_eq_true, decide_eq_true_eq] at h
            obtain ⟨⟨⟨⟨⟨⟨h1, h2⟩, h3⟩, rfl⟩, h4⟩, h5⟩, h6⟩ := h
            exact ⟨_, _, _, _, _, _, rfl, by simp [h1, h2, h3, h4, h5, h6]⟩
          | [], _, h => exact Bool.noConfusion h
          | [_], _ :: _, h => exact Bool.noConfusion h
          | _ :: _ :: _, _, h => exact Bool.noConfusion h
        | _ => exact Bool.noConfusion h
      | _ => exact Bool.noConfusion h
    | _ => exact Bool.noConfusion h
  | _ => exact Bool.noConfusion h
theorem ivs_ex {c : CE} (h : okS M sc (.ex c) e = true) : ∃ v p, e = .Expr v p ∧ (okE M sc c v && noComp v) = true := by
  cases e <;> first | exact Bool.noConfusion h | exact ⟨_, _, rfl, h⟩
theorem ivs_ret {c : CE} (h : okS M sc (.ret c) e = true) : ∃ v p, e = .Return (some v) p ∧ okE M sc c v = true := by
  cases e with
  | Return o p => cases o <;> first | exact Bool.noConfusion h | exact ⟨_, _, rfl, h⟩
  | _ => exact Bool.noConfusion h
theorem ivs_retv {i : Nat} (h : okS M sc (.retv i) e = true) : ∃ x q p, e = .Return (some (.Name x q)) p ∧ (visB sc x && decide (M.N[i]? = some x) && nmB x) = true := by
  cases e with
  | Return o p =>
    cases o with
    | none => exact Bool.noConfusion h
    | some v => cases v <;> first | exact Bool.noConfusion h | exact ⟨_, _, _, rfl, h⟩
  | _ => exact Bool.noConfusion h
theorem ivs_ret0 (h : okS M sc .ret0 e = true) : ∃ p, e = .Return none p := by
  cases e with
  | Return o p => cases o <;> first | exact Bool.noConfusion h | exact ⟨_, rfl⟩
  | _ => exact Bool.noConfusion h
theorem ivs_ite {t : CT} {a b : CB} (h : okS M sc (.ite t a b) e = true) : ∃ c x y p, e = .If c x y p ∧ (okT M sc t c && okB M sc a x && okB M sc b y) = true := by
  cases e <;> first | exact Bool.noConfusion h | exact ⟨_, _, _, _, rfl, h⟩
theorem ivs_fr {i : Nat} {s : CI} {b : CB} (h : okS M sc (.fr i s b) e = true) : ∃ x p iter body q, e = .For (.Name x p) iter body [] q ∧ (decide (M.N[i]? = some x) && locB sc x && okI M sc s iter && noSet iter && okB M sc b body) = true := by
  cases e with
  | For t iter body els q =>
    cases t with
    | Name x p => cases els <;> first | exact Bool.noConfusion h | exact ⟨_, _, _, _, _, rfl, h⟩
    | _ => exact Bool.noConfusion h
  | _ => exact Bool.noConfusion h
theorem ivs_brk (h : okS M sc .brk e = true) : ∃ p, e = .Break p := by
  cases e <;> first | exact Bool.noConfusion h | exact ⟨_, rfl⟩
theorem ivs_cnt (h : okS M sc .cnt e = true) : ∃ p, e = .Continue p := by
  cases e <;> first | exact Bool.noConfusion h | exact ⟨_, rfl⟩
theorem ivs_pas (h : okS M sc .pas e = true) : ∃ p, e = .Pass p := by
  cases e <;> first | exact Bool.noConfusion h | exact ⟨_, rfl⟩
end
def SndS (X : Cx) (Γ : List Sl) (st : Stmt) (f : Fl) : Prop := ∀ Fb F0 H0 σ H, St0 X.K Fb F0 H0 Γ σ H → WS X st (PostS X.K Fb F0 H0 f) σ H
def SndBk (X : Cx) (Γ : List Sl) (sts : List Stmt) (f : Fl) : Prop := ∀ Fb F0 H0 σ H, St0 X.K Fb F0 H0 Γ σ H → WB X sts (PostS X.K Fb F0 H0 f) σ H
section
variable {X : Cx} {M : Nm} {T : Tb} {k : Nat} {Γ : List Sl}
theorem hfn_of (hfn : ∀ x, X.fn x = true) (x : Str) : X.fn x = true ∨ X.env.scope.names.lookup x = some .local := .inl (hfn x)
theorem snd_set (C : Cok X M T k) (hfn : ∀ x, X.fn x = true) {i : Nat} {c : CE} {x : Str} {p q : Pos} {v : Expr} {r : R} (hi : M.N[i]? = some x) (hl : locB X.env.scope x = true) (hok : okE M X.env.scope c v = true) (h : ev T Γ c = .ok r) :
    SndS X Γ (.Assign [.Name x p] v q) (.nx (Γ.set i r.sl)) := by
  intro Fb F0 H0 σ H ⟨F, rel, o, g0, sb⟩
  have hN : X.N[i]? = some x := by rw [C.hN]; exact hi
  by_cases hs : swB X.env.scope x p v = true
  · cases v with
    | ListComp elt gs scope q' =>
      have hs : ((X.env.scope.names.lookup x == some .local) && (p.line == q'.line) && !(scope.names.any fun (n, k) => n == x && (k == .local || k == .cell))) = true := hs
      simp only [Bool.and_eq_true, Bool.not_eq_true', beq_iff_eq] at hs
      obtain ⟨⟨s1, s2⟩, s3⟩ := hs
      have hsw : ∀ gs', swapsWith (.ListComp elt gs' scope q') (some (.Name x p)) q.line X.env = pure true := fun gs' => sw_true C.kind s1 (by rw [s2]; exact beq_self_eq_true _) s3
      cases c <;> first | exact Bool.noConfusion hok | skip
      · rename_i e' j s
        obtain ⟨elt, y, p', iter, scope, q', e0, qq⟩ := iv_lc hok
        cases e0
        obtain ⟨qq, q6⟩ := and_iff qq
        obtain ⟨qq, q5⟩ := and_iff qq
        obtain ⟨qq, q4⟩ := and_iff qq
        obtain ⟨qq, q3⟩ := and_iff qq
        obtain ⟨q1, q2⟩ := and_iff qq
        simp only [ev] at h
        obtain ⟨ds, h1, h⟩ := Res.bind_ok h
        obtain ⟨out, h2, h⟩ := Res.bind_ok h
        obtain ⟨hz, h⟩ := need_ok h
        cases h
        refine .of (ps_setLc (own := [(y, j)]) C.calm C.nd hN s1 (hsw _) WI.pi (by rw [C.hN]; exact blkOk_by q3) (blk_pg C (of_decide_eq_true q1) q2) (fun _ _ _ _ _ => pts_nil) teB_pe (foldedSet_of q5)) ?_
        exact lc_read0 rel (sI s C q4 h1) h2 hz (fun d r hr => fun s H0 Cc cl fp => sE e' (C.blk (iv_blk q3)) q6 hr) fun v H' q => ⟨_, rfl, St0.setR (r := .own out) rel o g0 sb q⟩
      · rename_i e' j s t
        obtain ⟨elt, y, p', iter, c, scope, q', e0, qq⟩ := iv_lcc hok
        cases e0
        obtain ⟨qq, q7⟩ := and_iff qq
        obtain ⟨qq, q6⟩ := and_iff qq
        obtain ⟨qq, q5⟩ := and_iff qq
        obtain ⟨qq, q4⟩ := and_iff qq
        obtain ⟨qq, q3⟩ := and_iff qq
        obtain ⟨q1, q2⟩ := and_iff qq
        simp only [ev] at h
        obtain ⟨ds, h1, h⟩ := Res.bind_ok h
        obtain ⟨out, h2, h⟩ := Res.bind_ok h
        obtain ⟨hz, h⟩ := need_ok h
        cases h
        refine .of (ps_setLc (own := [(y, j)]) C.calm C.nd hN s1 (hsw _) WI.pi (by rw [C.hN]; exact blkOk_by q3) (blk_pg C (of_decide_eq_true q1) q2) (fun _ _ _ _ _ => pts_one (ttB_pt _ _ _ _ _)) teB_pe (foldedSet_of q5)) ?_
        exact lc_read1 rel (sI s C q4 h1) h2 hz (fun d b hb => fun s H0 Cc cl fp => sT t (C.blk (iv_blk q3)) q7 hb) (fun d r hr => fun s H0 Cc cl fp => sE e' (C.blk (iv_blk q3)) q6 hr) fun v H' q => ⟨_, rfl, St0.setR (r := .own out) rel o g0 sb q⟩
    | SetComp _ _ _ _ => cases c <;> exact Bool.noConfusion hok
    | DictComp _ _ _ _ _ => cases c <;> exact Bool.noConfusion hok
    | _ => exact Bool.noConfusion hs
  · have hs : swB X.env.scope x p v = false := by simpa using hs
    refine .of (ps_set C.nd hN (locB_loc hl) WE.pe (sw_false C.kind hs) (hfn_of hfn x)) ?_
    exact (sE c C hok h σ F H rel).mono fun v H' q => ⟨_, rfl, St0.setR rel o g0 sb q⟩
theorem snd_ret (C : Cok X M T k) {c : CE} {v : Expr} {q : Pos} {r : R} (hok : okE M X.env.scope c v = true) (h : ev T Γ c = .ok r) : SndS X Γ (.Return (some v) q) (.rt r) := by
  intro Fb F0 H0 σ H ⟨F, rel, o, g0, sb⟩
  refine .of (ps_ret WE.pe) ?_
  exact (sE c C hok h σ F H rel).mono fun v H' q => ⟨r, rfl, q.back g0⟩
theorem snd_retv (C : Cok X M T k) {i : Nat} {x : Str} {p q : Pos} {r : R} (hi : M.N[i]? = some x) (hv : visB X.env.scope x = true) (hn : nmB x = true) (h : exec T Γ (.retv i) = .ok (.rt r)) : SndS X Γ (.Return (some (.Name x p)) q) (.rt r) := by
  intro Fb F0 H0 σ H ⟨F, rel, o, g0, sb⟩
  refine .of (ps_ret (pe_var (by rw [C.hN]; exact hi) (visB_vis hv) (nmB_d hn).1 (nmB_d hn).2)) ?_
  simp only [exec] at h
  split at h <;> cases h
  · rename_i l e1
    obtain ⟨o', h1, p, us, rfl, h3, h4, h5⟩ := rel.at_ i _ e1
    exact ⟨_, h1, _, rfl, F, g0, p, us, rfl, o i l p e1 h1, h4, h3, h5⟩
  · rename_i d e1
    obtain ⟨o', h1, v, rfl, h3⟩ := rel.at_ i _ e1
    exact ⟨_, h1, _, rfl, F, g0, h3⟩
theorem snd_app (C : Cok X M T k) {i : Nat} {c : CE} {x : Str} {p ap q r : Pos} {y : Expr} {f : Fl} (hi : M.N[i]? = some x) (hv : visB X.env.scope x = true) (hn : nmB x = true) (hok : okE M X.env.scope c y = true) (hs : noStar y = true) (hl : (ap.endLine == q.line) = true)
    (h : exec T Γ (.app i c) = .ok f) : SndS X Γ (.Expr (.Call (.Attribute (.Name x p) "append" ap) [y] [] q) r) f := by
  intro Fb F0 H0 σ H ⟨F, rel, o, g0, sb⟩
  simp only [exec] at h
  obtain ⟨rr, h1, h⟩ := Res.bind_ok h
  split at h <;> try cases h
  rename_i l e1
  obtain ⟨hz, h⟩ := need_ok h
  cases h
  have se : starEach [y] X.env = (false, eval y X.env) :: starEach [] X.env := starEach_cons hs
  refine .of (ps_expr (pe_bm PySem.F.plainAttrs_list PySem.F.slot_list_append PySem.F.type_list_append mt_append (pe_var (by rw [C.hN]; exact hi) (visB_vis hv) (nmB_d hn).1 (nmB_d hn).2) (pa_cons WE.pe pa_nil se) rfl (by rw [se]; rfl) hl se rfl)) ?_
  obtain ⟨o', k1, pa, us, rfl, k3, k4, k5⟩ := rel.at_ i _ e1
  refine ⟨.ref pa, k1, .inl ⟨rfl, us, .of k3⟩, ?_⟩
  refine (sE c C hok h1 σ F H rel).mono fun v H' q => ?_
  obtain ⟨F', g, hv⟩ := q.val
  have rel' := rel.grow g
  refine ⟨pa, us, v, rfl, rfl, g.h _ _ k3, by rw [k5.len]; exact hz, _, rfl, ?_⟩
  exact St0.mut rel' o (g0.trans g) (sb.trans g.f) e1 k1 ((Rps.mono g.f _ k5).app (.one hv))
theorem snd_sidx (C : Cok X M T k) {i : Nat} {ix c : CE} {x : Str} {p r q : Pos} {y v : Expr} {f : Fl} (hi : M.N[i]? = some x) (hv : visB X.env.scope x = true) (hn : nmB x = true) (hix : okE M X.env.scope ix y = true) (hok : okE M X.env.scope c v = true) (hs : noSlice y = true)
    (h : exec T Γ (.sidx i ix c) = .ok f) : SndS X Γ (.Assign [.Subscript (.Name x p) y r] v q) f := by
  intro Fb F0 H0 σ H ⟨F, rel, o, g0, sb⟩
  simp only [exec] at h
  obtain ⟨rr, h1, h⟩ := Res.bind_ok h
  obtain ⟨qq, h2, h⟩ := Res.bind_ok h
  split at h <;> try cases h
  rename_i l kk e1
  cases hj : ixN l.length kk with
  | none => rw [hj] at h; cases h
  | some j =>
  rw [hj] at h
  cases h
  refine .of (ps_asg WE.pe (pg_sub (pe_var (by rw [C.hN]; exact hi) (visB_vis hv) (nmB_d hn).1 (nmB_d hn).2) WE.pe set_list (assign_sub hs)) sw_sub sws_sub) ?_
  refine (sE c C hok h1 σ F H rel).mono fun v H1 q => ?_
  obtain ⟨F1, g1, hv1⟩ := q.val
  obtain ⟨o', k1, pa, us, rfl, k3, k4, k5⟩ := (rel.grow g1).at_ i _ e1
  refine ⟨.ref pa, k1, ?_⟩
  refine (sE ix C hix h2 σ F1 H1 (rel.grow g1)).mono fun u H2 ⟨F2, g2, hu⟩ => ?_
  simp only [RpR, Rp] at hu
  have g := g1.trans g2
  refine ⟨pa, us, kk, j, rfl, hu, g2.h _ _ k3, by rw [k5.len]; exact hj, _, rfl, ?_⟩
  exact St0.mut (rel.grow g) o (g0.trans g) (sb.trans g.f) e1 k1 (Rps.set (Rp.mono g2.f _ hv1) j (Rps.mono g2.f _ k5))
theorem snd_for (C : Cok X M T k) (hfn : ∀ x, X.fn x = true) {i : Nat} {b : CB} {x : Str} {p q : Pos} {iter : Expr} {body : List Stmt} {f : Fl} (hi : M.N[i]? = some x) (hl : locB X.env.scope x = true) (hs : noSet iter = true) {ds : List D} (si : SndI X Γ iter ds)
    (sb' : ∀ Γ' f', execs T Γ' b = .ok f' → SndBk X Γ' body f') (h : forRun (fun d Γ => execs T (Γ.set i (.val d)) b) ds Γ = .ok f) : SndS X Γ (.For (.Name x p) iter body [] q) f := by
  intro Fb F0 H0 σ H ⟨F, rel, o, g0, sb⟩
  refine .of (ps_for C.pass C.calm WI.pi (pg_name C.nd (by rw [C.hN]; exact hi) (locB_loc hl) (hfn_of hfn x)) WB.pss (foldedSet_of hs)) ?_
  intro pins s I
  refine thn (si (.Name x p) σ F H rel pins s I) fun v s1 h1 => thn h1 fun itv s2 h2 => ?_
  obtain ⟨it, fp, tn, J, H1, e1, I1, T1, t1, f1, F1, g1, wk⟩ := h2
  refine ⟨it, fp, tn, J, H1, e1, I1, T1, t1, f1, ?_⟩
  refine ⟨fun j m σ' H' => m = ds.length - j ∧ j ≤ ds.length ∧ ∃ Γj F', Rel X.K Γj σ' F' H' ∧ Own0 H0 Γj σ' ∧ Grow F0 H0 F' H' ∧ Same F1 F' ∧ Same Fb F' ∧ forRun (fun d Γ => execs T (Γ.set i (.val d)) b) (ds.drop j) Γj = .ok f, ⟨ds.length, ?_⟩, ?_⟩
  · exact ⟨by simp, Nat.zero_le _, Γ, F1, rel.grow g1, o, g0.trans g1, Same.refl _, sb.trans g1.f, by simpa using h⟩
  · rintro j m σ' H' ⟨rfl, hj, Γj, F', rel', o', g', s1', s2', hr⟩
    by_cases hlt : j < ds.length
    · have hd : ds[j]? = some ds[j] := List.getElem?_eq_getElem hlt
      obtain ⟨go, yl⟩ := (wk j F' H' s1' rel'.sub).1 _ hd
      rw [List.drop_eq_getElem_cons hlt] at hr
      simp only [forRun] at hr
      obtain ⟨fl, hb, hr⟩ := Res.bind_ok hr
      refine .inr ⟨go, fun σ2 H2 => ∃ Γ2 F2, Rel X.K Γ2 σ2 F2 H2 ∧ Own0 H0 Γ2 σ2 ∧ Grow F0 H0 F2 H2 ∧ Same F1 F2 ∧ Same Fb F2 ∧ forRun (fun d Γ => execs T (Γ.set i (.val d)) b) (ds.drop (j + 1)) Γ2 = .ok f,
        fun σ2 H2 ⟨Γ2, F2, a1, a2, a3, a4, a5, a6⟩ => ⟨ds.length - (j + 1), by omega, rfl, hlt, Γ2, F2, a1, a2, a3, a4, a5, a6⟩, fun y H2 yy => ?_⟩
      obtain ⟨F2, g2, hy⟩ := yl y H2 yy
      have rel2 : Rel X.K (Γj.set i (.val ds[j])) (σ'.set i (some y)) F2 H2 := (rel'.grow g2).setv hy
      have o2 : Own0 H0 (Γj.set i (.val ds[j])) (σ'.set i (some y)) := o'.setR (r := .val ds[j]) (K := X.K) (H := H') (F' := F2) (H' := H2) rel'.len g'.h hy
      have st2 : St0 X.K F2 F0 H0 (Γj.set i (.val ds[j])) (σ'.set i (some y)) H2 := ⟨F2, rel2, o2, g'.trans g2, Same.refl _⟩
      refine (sb' _ fl hb F2 F0 H0 _ H2 st2).mono ?_ ?_ ?_ ?_
      · rintro σ3 H3 ⟨Γ3, rfl, F3, a1, a2, a3, a4⟩
        exact ⟨Γ3, F3, a1, a2, a3, s1'.trans (g2.f.trans a4), s2'.trans (g2.f.trans a4), hr⟩
      · rintro v H3 ⟨r, rfl, q⟩
        cases hr
        exact ⟨r, rfl, q⟩
      · rintro σ3 H3 ⟨Γ3, rfl, F3, a1, a2, a3, a4⟩
        cases hr
        exact ⟨Γ3, rfl, F3, a1, a2, a3, s2'.trans (g2.f.trans a4)⟩
      · rintro σ3 H3 ⟨Γ3, rfl, F3, a1, a2, a3, a4⟩
        exact ⟨Γ3, F3, a1, a2, a3, s1'.trans (g2.f.trans a4), s2'.trans (g2.f.trans a4), hr⟩
    · have ej : j = ds.length := by omega
      subst ej
      rw [List.drop_length] at hr
      cases hr
      exact .inl ⟨(wk _ F' H' s1' rel'.sub).2 rfl, Γj, rfl, F', rel', o', g', s2'⟩
mutual
theorem sS : ∀ (c : CS) {Γ : List Sl} {e : Stmt} {f : Fl}, Cok X M T k → (∀ x, X.fn x = true) → okS M X.env.scope c e = true → exec T Γ c = .ok f → SndS X Γ e f
  | .set i c, Γ, e, f, C, hfn, hok, h => by
    obtain ⟨x, p, v, q', rfl, q⟩ := ivs_set hok
    obtain ⟨q, q3⟩ := and_iff q
    obtain ⟨q1, q2⟩ := and_iff q
    simp only [exec] at h
    obtain ⟨r, h1, h⟩ := Res.bind_ok h
    cases h
    exact snd_set C hfn (of_decide_eq_true q1) q2 q3 h1
  | .sidx i ix c, Γ, e, f, C, hfn, hok, h => by
    obtain ⟨x, p, y, r, v, q', rfl, q⟩ := ivs_sidx hok
    obtain ⟨q, q6⟩ := and_iff q
    obtain ⟨q, q5⟩ := and_iff q
    obtain ⟨q, q4⟩ := and_iff q
    obtain ⟨q, q3⟩ := and_iff q
    obtain ⟨q1, q2⟩ := and_iff q
    exact snd_sidx C (of_decide_eq_true q2) q1 q3 q4 q5 q6 h
  | .app i c, Γ, e, f, C, hfn, hok, h => by
    obtain ⟨x, p, ap, y, q', r, rfl, q⟩ := ivs_app hok
    obtain ⟨q, q6⟩ := and_iff q
    obtain ⟨q, q5⟩ := and_iff q
    obtain ⟨q, q4⟩ := and_iff q
    obtain ⟨q, q3⟩ := and_iff q
    obtain ⟨q1, q2⟩ := and_iff q
    exact snd_app C (of_decide_eq_true q2) q1 q3 q4 q5 q6 h
  | .ex c, Γ, e, f, C, hfn, hok, h => by
    obtain ⟨v, p, rfl, q⟩ := ivs_ex hok
    obtain ⟨q1, q2⟩ := and_iff q
    simp only [exec] at h
    obtain ⟨r, h1, h⟩ := Res.bind_ok h
    cases h
    intro Fb F0 H0 σ H ⟨F, rel, o, g0, sb⟩
    refine .of (ps_expr WE.pe (sw_none q2)) ?_
    exact (sE c C q1 h1 σ F H rel).mono fun v H' ⟨F', g, _⟩ => ⟨_, rfl, St0.grow rel o g0 sb g⟩
  | .ret c, Γ, e, f, C, hfn, hok, h => by
    obtain ⟨v, p, rfl, q⟩ := ivs_ret hok
    simp only [exec] at h
    obtain ⟨r, h1, h⟩ := Res.bind_ok h
    cases h
    exact snd_ret C q h1
  | .retv i, Γ, e, f, C, hfn, hok, h => by
    obtain ⟨x, p, q', rfl, q⟩ := ivs_retv hok
    obtain ⟨q, q3⟩ := and_iff q
    obtain ⟨q1, q2⟩ := and_iff q
    have hh : ∃ r, f = .rt r := by
      simp only [exec] at h
      split at h <;> cases h <;> exact ⟨_, rfl⟩
    obtain ⟨r, rfl⟩ := hh
    exact snd_retv C (of_decide_eq_true q2) q1 q3 h
  | .ret0, Γ, e, f, C, hfn, hok, h => by
    obtain ⟨p, rfl⟩ := ivs_ret0 hok
    simp only [exec] at h
    cases h
    intro Fb F0 H0 σ H ⟨F, rel, o, g0, sb⟩
    exact .of ps_retN ⟨_, rfl, F, g0, by simp only [RpR, Rp]⟩
  | .ite t a b, Γ, e, f, C, hfn, hok, h => by
    obtain ⟨c, x, y, p, rfl, q⟩ := ivs_ite hok
    obtain ⟨q, q3⟩ := and_iff q
    obtain ⟨q1, q2⟩ := and_iff q
    simp only [exec] at h
    obtain ⟨z, h1, h⟩ := Res.bind_ok h
    intro Fb F0 H0 σ H ⟨F, rel, o, g0, sb⟩
    refine .of (ps_if WT.pt WB.pss WB.pss) ?_
    refine (sT t C q1 h1 σ F H rel).mono fun d H1 ⟨ed, F1, g1⟩ => ?_
    subst ed
    cases d with
    | true =>
      rw [if_pos rfl] at h ⊢
      exact sB a C hfn q2 h Fb F0 H0 σ H1 (St0.grow rel o g0 sb g1)
    | false =>
      rw [if_neg (by decide)] at h ⊢
      exact sB b C hfn q3 h Fb F0 H0 σ H1 (St0.grow rel o g0 sb g1)
  | .fr i s b, Γ, e, f, C, hfn, hok, h => by
    obtain ⟨x, p, iter, body, q', rfl, q⟩ := ivs_fr hok
    obtain ⟨q, q5⟩ := and_iff q
    obtain ⟨q, q4⟩ := and_iff q
    obtain ⟨q, q3⟩ := and_iff q
    obtain ⟨q1, q2⟩ := and_iff q
    simp only [exec] at h
    obtain ⟨ds, h1, h⟩ := Res.bind_ok h
    exact snd_for C hfn (of_decide_eq_true q1) q2 q4 (sI s C q3 h1) (fun Γ' f' hf => sB b C hfn q5 hf) h
  | .brk, Γ, e, f, C, hfn, hok, h => by
    obtain ⟨p, rfl⟩ := ivs_brk hok
    simp only [exec] at h
    cases h
    exact fun Fb F0 H0 σ H st => .of ps_break ⟨_, rfl, st⟩
  | .cnt, Γ, e, f, C, hfn, hok, h => by
    obtain ⟨p, rfl⟩ := ivs_cnt hok
    simp only [exec] at h
    cases h
    exact fun Fb F0 H0 σ H st => .of ps_continue ⟨_, rfl, st⟩
  | .pas, Γ, e, f, C, hfn, hok, h => by
    obtain ⟨p, rfl⟩ := ivs_pas hok
    simp only [exec] at h
    cases h
    exact fun Fb F0 H0 σ H st => .of ps_pass ⟨_, rfl, st⟩
theorem sB : ∀ (c : CB) {Γ : List Sl} {sts : List Stmt} {f : Fl}, Cok X M T k → (∀ x, X.fn x = true) → okB M X.env.scope c sts = true → execs T Γ c = .ok f → SndBk X Γ sts f
  | .nil, Γ, sts, f, C, hfn, hok, h => by
    cases sts with
    | nil =>
      simp only [execs] at h
      cases h
      exact fun Fb F0 H0 σ H st => .of pss_nil ⟨_, rfl, st⟩
    | cons _ _ => exact Bool.noConfusion hok
  | .cons s b, Γ, sts, f, C, hfn, hok, h => by
    cases sts with
    | nil => exact Bool.noConfusion hok
    | cons x r =>
      have q : (okS M X.env.scope s x && okB M X.env.scope b r) = true := hok
      obtain ⟨q1, q2⟩ := and_iff q
      simp only [execs] at h
      obtain ⟨f1, h1, h⟩ := Res.bind_ok h
      intro Fb F0 H0 σ H st
      refine .of (pss_cons WS.ps WB.pss) ?_
      refine (sS s C hfn q1 h1 Fb F0 H0 σ H st).mono ?_ ?_ ?_ ?_
      · rintro σ' H' ⟨Γ', rfl, st'⟩
        exact sB b C hfn q2 h Fb F0 H0 σ' H' st'
      · rintro v H' ⟨r, rfl, q⟩
        cases h
        exact ⟨r, rfl, q⟩
      · rintro σ' H' ⟨Γ', rfl, st'⟩
        cases h
        exact ⟨Γ', rfl, st'⟩
      · rintro σ' H' ⟨Γ', rfl, st'⟩
        cases h
        exact ⟨Γ', rfl, st'⟩
  | .frz i b, Γ, sts, f, C, hfn, hok, h => by
    have hok : okB M X.env.scope b sts = true := by cases sts <;> exact hok
    simp only [execs] at h
    exact fun Fb F0 H0 σ H st => sB b C hfn hok h Fb F0 H0 σ H st.frz
end
end
end NK

namespace NK
open PySem L2

/-- the module: constants, functions that are served, builtins -/
structure Mok (P : Program) (w : World) (K : PySem.W.Frag) (mg : Str → Option Value) (base : Heap) (cs fs : List Str) (T : Tb) (k : Nat) : Prop where
  glo : ∀ (j : Nat) (x : Str), cs[j]? = some x → ∃ d v u, T.cs[j]? = some d ∧ mg x = some u ∧ RelV v u ∧ ∀ F, Rp K F d v
  fn : ∀ (i : Nat) (x : Str), fs[i]? = some x → ∃ f fd ps, (∀ ds r, T.fs i ds = .ok r → ds.length = ps.length) ∧ mg x = some (.ref f) ∧ PySem.W.keepIn K (.ref f) = true ∧ Binds K fd ps [] ∧ FnOk P w K mg base CX0 k f fd ps (spF K ps.length (T.fs i))
  blt : ∀ x ∈ bltNames, mg x = none
section
variable {P : Program} {w : World} {K : PySem.W.Frag} {mg : Str → Option Value} {base : Heap}
theorem rel_start {F H : Hp} {ds : List D} {vs : List V} {N : List Str} (e : Same F H) (r : Rps K F ds vs) : Rel K (ds.map Sl.val ++ List.replicate (N.length - ds.length) .no) (L2.start N vs) F H := by
  unfold L2.start
  have hl := r.len
  refine ⟨e, by simp [hl], fun i s q => ?_, fun i j l m p q1 _ _ _ => ?_⟩
  · by_cases hi : i < ds.length
    · rw [List.getElem?_append_left (by simpa using hi), List.getElem?_map] at q
      obtain ⟨d, hd, rfl⟩ := Option.map_eq_some_iff.mp q
      obtain ⟨v, hv, hr⟩ := r.get hd
      refine ⟨some v, ?_, v, rfl, hr⟩
      rw [List.getElem?_append_left (by simp [hl]; exact hi), List.getElem?_map, hv]
      rfl
    · rw [List.getElem?_append_right (by simpa using hi)] at q
      rw [List.length_map, List.getElem?_replicate] at q
      split at q <;> cases q
      rename_i hlt
      refine ⟨none, ?_, trivial⟩
      rw [List.getElem?_append_right (by simp [hl]; omega), List.length_map, List.getElem?_replicate, if_pos (by omega)]
  · by_cases hi : i < ds.length
    · rw [List.getElem?_append_left (by simpa using hi), List.getElem?_map] at q1
      obtain ⟨d, hd, z⟩ := Option.map_eq_some_iff.mp q1
      cases z
    · rw [List.getElem?_append_right (by simpa using hi)] at q1
      rw [List.length_map, List.getElem?_replicate] at q1
      split at q1 <;> cases q1
/-- THE THEOREM of a def -/
theorem fn_ok {x qual : Str} {params : Arguments} {body : List Stmt} {scope : Scope} {dvs : List V} {kws : List (Str × V)} {f : Addr} {fd : FuncData} {N ps cs fs : List Str} {T : Tb} {k : Nat} {b : CB} {φ : List D → Res R}
    (F : FunD K x qual params body scope dvs kws f fd) (S : FnScope N ps scope) (mo : Mok P w K mg base cs fs T k) (hok : okB ⟨N, cs, fs⟩ scope b body = true) (hφ : ∀ ds r, φ ds = .ok r → runD T N.length b ds = .ok r) :
    FnOk P w K mg base CX0 (k + 1) f fd ps (spF K ps.length φ) := by
  refine F.ok S (fun vs H Q E h => h.1) fun cdv A outer s H vs Q E hr h => ?_
  obtain ⟨hlen, F, ds, r, e, hv, hr', hQ⟩ := h
  have hrun := hφ ds r hr'
  unfold runD at hrun
  obtain ⟨fl, h1, h2⟩ := Res.bind_ok hrun
  let X := (cxOf CX0 P w K mg base N qual scope f cdv A outer s H E).nox
  have C : Cok X ⟨N, cs, fs⟩ T k := ⟨hr, S.nd, rfl, rfl, S.kind, PassesOwn.never, mo.glo, mo.fn, mo.blt⟩
  refine ⟨_, (WB.pss (X := X)).nox, ?_⟩
  have ow : Own0 H (ds.map Sl.val ++ List.replicate (N.length - ds.length) .no) (L2.start N vs) := fun i l p q1 _ => by
    by_cases hi : i < ds.length
    · rw [List.getElem?_append_left (by simpa using hi), List.getElem?_map] at q1
      obtain ⟨d, hd, z⟩ := Option.map_eq_some_iff.mp q1
      cases z
    · rw [List.getElem?_append_right (by simpa using hi)] at q1
      rw [List.length_map, List.getElem?_replicate] at q1
      split at q1 <;> cases q1
  have st : St0 X.K F F H (ds.map Sl.val ++ List.replicate (N.length - ds.length) .no) (L2.start N vs) H := ⟨F, rel_start e hv, ow, .refl e, Same.refl _⟩
  refine (sB b C (fun _ => rfl) hok h1 F F H (L2.start N vs) H st).mono ?_ ?_ ?_ ?_
  · rintro σ' H' ⟨Γ', rfl, F', rel', _, g', _⟩
    cases h2
    exact hQ _ _ ⟨F', g', by simp only [RpR, Rp]⟩
  · rintro v H' ⟨r', rfl, q⟩
    cases h2
    exact hQ _ _ q
  · rintro σ' H' ⟨Γ', rfl, _⟩
    cases h2
  · rintro σ' H' ⟨Γ', rfl, _⟩
    cases h2
end

/-! ### a program: functions in the order of their calls -/
structure Fn where
  name : Str
  N : List Str
  ps : List Str
  params : Arguments
  body : List Stmt
  scope : Scope
  b : CB
def Fn.of (s : Stmt) (name : Str) (N ps : List Str) (b : CB) : Fn := ⟨name, N, ps, defArgs s, defBody s, defScope s, b⟩
/-- a function's value, over those that stand ahead of it -/
def step (cd : List D) (fns : List Fn) (n : Nat) (t : Nat → List D → Res R) : List D → Res R := match fns[n]? with
  | some f => fun ds => need (ds.length = f.ps.length) (runD ⟨cd, t⟩ f.N.length f.b ds)
  | none => fun _ => .bad
def tab (cd : List D) (fns : List Fn) : Nat → Nat → List D → Res R
  | 0 => fun _ _ => .bad
  | n + 1 => fun j => if j = n then step cd fns n (tab cd fns n) else tab cd fns n j
theorem tab_lt {cd : List D} {fns : List Fn} {j : Nat} : ∀ {n : Nat}, j < n → tab cd fns n j = step cd fns j (tab cd fns j)
  | 0, h => absurd h (Nat.not_lt_zero _)
  | n + 1, h => by
    show (if j = n then step cd fns n (tab cd fns n) else tab cd fns n j) = _
    by_cases e : j = n
    · subst e; rw [if_pos rfl]
    · rw [if_neg e]; exact tab_lt (by omega)
theorem tab_ge {cd : List D} {fns : List Fn} {j : Nat} : ∀ {n : Nat}, n ≤ j → tab cd fns n j = fun _ => .bad
  | 0, h => rfl
  | n + 1, h => by
    show (if j = n then step cd fns n (tab cd fns n) else tab cd fns n j) = _
    rw [if_neg (by omega)]
    exact tab_ge (by omega)
/-- what the kernel looks at -/
def Fn.chk (cs fs : List Str) (f : Fn) : Bool :=
  (f.scope.kind == .function) && (f.scope.isCoroutine == false) && (f.scope.isGenerator == false) && decide f.N.Nodup && decide (f.N.take f.ps.length = f.ps) &&
  f.ps.all (fun x => f.scope.names.lookup x == some .local || f.scope.names.lookup x == some .cell) && f.scope.names.all (fun y => !(y.2 == .free)) && okB ⟨f.N, cs, fs⟩ f.scope f.b f.body
theorem Fn.chk_ok {cs fs : List Str} {f : Fn} (h : f.chk cs fs = true) : FnScope f.N f.ps f.scope ∧ okB ⟨f.N, cs, fs⟩ f.scope f.b f.body = true := by
  unfold Fn.chk at h
  simp only [Bool.and_eq_true, decide_eq_true_eq, beq_iff_eq, List.all_eq_true, Bool.or_eq_true, Bool.not_eq_true', beq_eq_false_iff_ne] at h
  obtain ⟨⟨⟨⟨⟨⟨⟨h1, h2⟩, h3⟩, h4⟩, h5⟩, h6⟩, h7⟩, h8⟩ := h
  exact ⟨⟨h1, h2, h3, h4, h5, h6, h7⟩, h8⟩
/-- a def's place in the module -/
def At (K : PySem.W.Frag) (mg : Str → Option Value) (f : Fn) (a : Addr) (fd : FuncData) : Prop :=
  FunD K f.name f.name f.params f.body f.scope [] [] a fd ∧ mg f.name = some (.ref a) ∧ Binds K fd f.ps []
section
variable {P : Program} {w : World} {K : PySem.W.Frag} {mg : Str → Option Value} {base : Heap}
theorem prog_ok {cd : List D} {cs : List Str} {fns : List Fn} (hg : ∀ (j : Nat) (x : Str), cs[j]? = some x → ∃ d v u, cd[j]? = some d ∧ mg x = some u ∧ RelV v u ∧ ∀ F, Rp K F d v) (hb : ∀ x ∈ bltNames, mg x = none)
    (hat : ∀ (i : Nat) (f : Fn), fns[i]? = some f → ∃ a fd, At K mg f a fd) (hchk : fns.all (fun f => f.chk cs (fns.map (·.name))) = true) :
    ∀ (i : Nat) (f : Fn), fns[i]? = some f → ∀ a fd, At K mg f a fd → FnOk P w K mg base CX0 (i + 1) a fd f.ps (spF K f.ps.length (step cd fns i (tab cd fns i))) := by
  intro i
  induction i using Nat.strongRecOn with
  | ind i ih =>
    intro f hf a fd ⟨F, hm, hbn⟩
    obtain ⟨S, hok⟩ := Fn.chk_ok (List.all_eq_true.mp hchk f (List.mem_of_getElem? hf))
    refine fn_ok F S (T := ⟨cd, tab cd fns i⟩) (k := i) ⟨hg, fun j x hj => ?_, hb⟩ hok fun ds r h => ?_
    · rw [List.getElem?_map] at hj
      obtain ⟨g, hgj, rfl⟩ := Option.map_eq_some_iff.mp hj
      obtain ⟨b, gd, hG⟩ := hat j g hgj
      have len : ∀ ds r, step cd fns j (tab cd fns j) ds = .ok r → ds.length = g.ps.length := fun ds r h => by
        unfold step at h
        rw [hgj] at h
        exact (need_ok h).1
      by_cases hji : j < i
      · refine ⟨b, gd, g.ps, fun ds r h => ?_, hG.2.1, hG.1.kp, hG.2.2, ?_⟩
        · have h : tab cd fns i j ds = .ok r := h
          rw [tab_lt hji] at h
          exact len ds r h
        · show FnOk P w K mg base CX0 i b gd g.ps (spF K g.ps.length (tab cd fns i j))
          rw [tab_lt hji]
          exact (ih j hji g hgj b gd hG).mono hji
      · refine ⟨b, gd, g.ps, fun ds r h => ?_, hG.2.1, hG.1.kp, hG.2.2, ?_⟩
        · have h : tab cd fns i j ds = .ok r := h
          rw [tab_ge (by omega)] at h
          cases h
        · show FnOk P w K mg base CX0 i b gd g.ps (spF K g.ps.length (tab cd fns i j))
          rw [tab_ge (by omega)]
          refine ⟨fun vs H Q E h => h.1, fun A outer s H args us vs Q E _ _ _ _ h => ?_⟩
          obtain ⟨h1, F, ds, r, h2, h3, h4, h5⟩ := h
          cases h4
    · unfold step at h
      rw [hf] at h
      exact (need_ok h).2
end
/-- a law's promise from its value -/
theorem law_sp {K : PySem.W.Frag} {φ : List D → Res R} (h : ∀ ns : List Int, ns.length ≤ 63 → φ [.scr ns] = .ok (.val (.bl true))) (H : Hp) (a : Addr) (ns : List Int) (hl : ns.length ≤ 63) (hS : SqL K H a (ns.map V.int)) : spF K 1 φ [.ref a] H (fun v _ => v = .bl true) fun _ _ _ => False := by
  refine ⟨rfl, H, [.scr ns], _, Same.refl _, ?_, h ns hl, fun v H' ⟨F', g, q⟩ => ?_⟩
  · refine Rps.cons' ?_ Rps.nil'
    unfold Rp
    exact ⟨a, rfl, hS⟩
  · simp only [RpR, Rp] at q; exact q
end NK

namespace NK
open PySem L2
/-! ### evaluation: equations without a binder -/
def bind2 {α β γ : Type} (r : Res α) (s : Res β) (g : α → β → Res γ) : Res γ := r.bind fun x => s.bind fun y => g x y
@[simp] theorem bind2_ok {α β γ : Type} (x : α) (y : β) (g : α → β → Res γ) : bind2 (.ok x) (.ok y) g = g x y := id rfl
def rdV : Option Sl → Res R
  | some (.val d) => .ok (.val d)
  | _ => .bad
@[simp] theorem rdV_val (d : D) : rdV (some (.val d)) = .ok (.val d) := id rfl
def rdP : Option Sl → Res D
  | some (.own l) => .ok (.lst l)
  | some (.val d) => .ok d
  | _ => .bad
@[simp] theorem rdP_val (d : D) : rdP (some (.val d)) = .ok d := id rfl
@[simp] theorem rdP_own (l : List D) : rdP (some (.own l)) = .ok (.lst l) := id rfl
def notR : R → Res R
  | .val (.bl b) => .ok (.val (.bl (!b)))
  | _ => .bad
@[simp] theorem notR_bl (b : Bool) : notR (.val (.bl b)) = .ok (.val (.bl (!b))) := id rfl
def negR : R → Res R
  | .val (.int i) => .ok (.val (.int (-i)))
  | _ => .bad
@[simp] theorem negR_int (i : Int) : negR (.val (.int i)) = .ok (.val (.int (-i))) := id rfl
def andK (s : Res R) : R → Res R
  | .val (.bl c) => if c then s else .ok (.val (.bl false))
  | _ => .bad
@[simp] theorem andK_t (s : Res R) : andK s (.val (.bl true)) = s := id rfl
@[simp] theorem andK_f (s : Res R) : andK s (.val (.bl false)) = .ok (.val (.bl false)) := id rfl
theorem andK_bl (s : Res R) (b : Bool) : andK s (.val (.bl b)) = if b then s else .ok (.val (.bl false)) := id rfl
def orK (s : Res R) : R → Res R
  | .val (.bl c) => if c then .ok (.val (.bl true)) else s
  | _ => .bad
@[simp] theorem orK_t (s : Res R) : orK s (.val (.bl true)) = .ok (.val (.bl true)) := id rfl
@[simp] theorem orK_f (s : Res R) : orK s (.val (.bl false)) = s := id rfl
theorem orK_bl (s : Res R) (b : Bool) : orK s (.val (.bl b)) = if b then .ok (.val (.bl true)) else s := id rfl
def cmpR (op : CO) (x y : D) : Res R := (cmpD op x y).map fun z => .val (.bl z)
@[simp] theorem cmpR_def (op : CO) (x y : D) : cmpR op x y = (cmpD op x y).map fun z => .val (.bl z) := id rfl
def ifK {α : Type} (a b : Res α) (z : Bool) : Res α := if z then a else b
@[simp] theorem ifK_t {α : Type} (a b : Res α) : ifK a b true = a := id rfl
@[simp] theorem ifK_f {α : Type} (a b : Res α) : ifK a b false = b := id rfl
def chR (o1 o2 : CO) (s : Res D) (x y : D) : Res R := (cmpD o1 x y).bind fun z => if z then s.bind fun w => (cmpD o2 y w).bind fun z => .ok (.val (.bl z)) else .ok (.val (.bl false))
def chT (o1 o2 : CO) (s : Res D) (x y : D) : Res Bool := (cmpD o1 x y).bind fun z => if z then s.bind fun w => cmpD o2 y w else .ok false
def tupR (ds : List D) : Res R := need (ds.length ≤ sizeLine) (.ok (.val (.tup ds)))
def lstR (ds : List D) : Res R := need (ds.length ≤ sizeLine) (.ok (.own ds))
@[simp] theorem tupR_def (ds : List D) : tupR ds = need (ds.length ≤ sizeLine) (.ok (.val (.tup ds))) := id rfl
@[simp] theorem lstR_def (ds : List D) : lstR ds = need (ds.length ≤ sizeLine) (.ok (.own ds)) := id rfl
def sliK (x : D) (lo hi : Option Int) : Res R := sliD x lo hi
def bind3 {α β γ δ : Type} (r : Res α) (s : Res β) (t : Res γ) (g : α → β → γ → Res δ) : Res δ := r.bind fun x => s.bind fun y => t.bind fun z => g x y z
@[simp] theorem bind3_ok {α β γ δ : Type} (x : α) (y : β) (z : γ) (g : α → β → γ → Res δ) : bind3 (.ok x) (.ok y) (.ok z) g = g x y z := id rfl
/-- a comprehension's turn -/
def lcF (T : Tb) (Γ : List Sl) (e : CE) (i : Nat) (d : D) : Res (Option D) := (ev T (Γ.set i (.val d)) e).map fun r => some r.d
def lccF (T : Tb) (Γ : List Sl) (e : CE) (i : Nat) (t : CT) (d : D) : Res (Option D) := (evt T (Γ.set i (.val d)) t).bind fun z => if z then (ev T (Γ.set i (.val d)) e).map fun r => some r.d else .ok none
def ownN (ds l : List D) : Res R := need (ds.length ≤ sizeLine) (.ok (.own l))
def lcK (f : D → Res (Option D)) (ds : List D) : Res R := (lcRun f ds).bind (ownN ds)
@[simp] theorem ownN_def (ds l : List D) : ownN ds l = need (ds.length ≤ sizeLine) (.ok (.own l)) := id rfl
def consK (r : R) (ds : List D) : Res (List D) := .ok (r.d :: ds)
@[simp] theorem consK_def (r : R) (ds : List D) : consK r ds = .ok (r.d :: ds) := id rfl
def starK (x : D) (ds : List D) : Res (List D) := match x with
  | .lst xs => .ok (xs ++ ds)
  | .tup xs => .ok (xs ++ ds)
  | _ => .bad
@[simp] theorem starK_l (xs ds : List D) : starK (.lst xs) ds = .ok (xs ++ ds) := id rfl
@[simp] theorem starK_t (xs ds : List D) : starK (.tup xs) ds = .ok (xs ++ ds) := id rfl
def itK (r : R) : Res (List D) := match r.d with
  | .lst l => .ok l
  | .tup l => .ok l
  | _ => .bad
@[simp] theorem itK_o (l : List D) : itK (.own l) = .ok l := id rfl
@[simp] theorem itK_l (l : List D) : itK (.val (.lst l)) = .ok l := id rfl
@[simp] theorem itK_t (l : List D) : itK (.val (.tup l)) = .ok l := id rfl
def isK (r : R) : Res (List D) := match r.d with
  | .str z => need (z.length ≤ sizeLine) (.ok (z.cps.toList.map fun c => .str (chr1 c)))
  | _ => .bad
@[simp] theorem isK_s (z : Str) : isK (.val (.str z)) = need (z.length ≤ sizeLine) (.ok (z.cps.toList.map fun c => .str (chr1 c))) := id rfl
def r1K (r : R) : Res (List D) := match r with
  | .val (.int n) => need (-(2 ^ 62) ≤ n ∧ n < 2 ^ 62) (.ok (rangeD 0 n.toNat))
  | _ => .bad
@[simp] theorem r1K_i (n : Int) : r1K (.val (.int n)) = need (-(2 ^ 62) ≤ n ∧ n < 2 ^ 62) (.ok (rangeD 0 n.toNat)) := id rfl
def r2K (r q : R) : Res (List D) := match r, q with
  | .val (.int lo), .val (.int hi) => need ((-(2 ^ 62) ≤ lo ∧ lo < 2 ^ 62) ∧ (-(2 ^ 62) ≤ hi ∧ hi < 2 ^ 62)) (.ok (rangeD lo (hi - lo).toNat))
  | _, _ => .bad
@[simp] theorem r2K_i (lo hi : Int) : r2K (.val (.int lo)) (.val (.int hi)) = need ((-(2 ^ 62) ≤ lo ∧ lo < 2 ^ 62) ∧ (-(2 ^ 62) ≤ hi ∧ hi < 2 ^ 62)) (.ok (rangeD lo (hi - lo).toNat)) := id rfl
def soK (r : R) : Res (Option Int) := match r with
  | .val (.int i) => .ok (some i)
  | _ => .bad
@[simp] theorem soK_i (i : Int) : soK (.val (.int i)) = .ok (some i) := id rfl
section
variable (T : Tb) (Γ : List Sl)
@[simp] theorem ev_var (i : Nat) : ev T Γ (.var i) = rdV Γ[i]? := id rfl
@[simp] theorem ev_int (i : Int) : ev T Γ (.int i) = .ok (.val (.int i)) := id rfl
@[simp] theorem ev_str (i : Str) : ev T Γ (.str i) = .ok (.val (.str i)) := id rfl
@[simp] theorem ev_bl (i : Bool) : ev T Γ (.bl i) = .ok (.val (.bl i)) := id rfl
@[simp] theorem ev_non : ev T Γ .non = .ok (.val .non) := id rfl
@[simp] theorem ev_glo (j : Nat) : ev T Γ (.glo j) = (match T.cs[j]? with | some d => .ok (.val d) | none => .bad) := id rfl
@[simp] theorem ev_bin (op : BO) (a b : CE) : ev T Γ (.bin op a b) = bind2 (pk Γ a (ev T Γ a)) (pk Γ b (ev T Γ b)) (binD op) := id rfl
@[simp] theorem ev_neg (a : CE) : ev T Γ (.neg a) = (ev T Γ a).bind negR := id rfl
@[simp] theorem ev_notv (a : CE) : ev T Γ (.notv a) = (ev T Γ a).bind notR := id rfl
@[simp] theorem ev_andv (a b : CE) : ev T Γ (.andv a b) = (ev T Γ a).bind (andK (ev T Γ b)) := id rfl
@[simp] theorem ev_orv (a b : CE) : ev T Γ (.orv a b) = (ev T Γ a).bind (orK (ev T Γ b)) := id rfl
@[simp] theorem ev_cmp (op : CO) (a b : CE) : ev T Γ (.cmp op a b) = bind2 (pk Γ a (ev T Γ a)) (pk Γ b (ev T Γ b)) (cmpR op) := id rfl
@[simp] theorem ev_chain (o1 o2 : CO) (a b c : CE) : ev T Γ (.chain o1 o2 a b c) = bind2 (pk Γ a (ev T Γ a)) (pk Γ b (ev T Γ b)) (chR o1 o2 (pk Γ c (ev T Γ c))) := id rfl
@[simp] theorem ev_ifx (t : CT) (a b : CE) : ev T Γ (.ifx t a b) = (evt T Γ t).bind (ifK (ev T Γ a) (ev T Γ b)) := id rfl
@[simp] theorem ev_tup (l : CL) : ev T Γ (.tup l) = (evs T Γ l).bind tupR := id rfl
@[simp] theorem ev_lst (l : CL) : ev T Γ (.lst l) = (evs T Γ l).bind lstR := id rfl
@[simp] theorem ev_idx (a b : CE) : ev T Γ (.idx a b) = bind2 (pk Γ a (ev T Γ a)) (pk Γ b (ev T Γ b)) idxD := id rfl
@[simp] theorem ev_sli (a : CE) (lo hi : CP) : ev T Γ (.sli a lo hi) = bind3 (pk Γ a (ev T Γ a)) (evo T Γ lo) (evo T Γ hi) sliD := id rfl
@[simp] theorem ev_call (f : Nat) (l : CL) : ev T Γ (.call f l) = (evs T Γ l).bind (T.fs f) := id rfl
@[simp] theorem ev_bi (b : Bi) (a : CE) : ev T Γ (.bi b a) = (pk Γ a (ev T Γ a)).bind (biD b) := id rfl
@[simp] theorem ev_bj (b : Bj) (x y : CE) : ev T Γ (.bj b x y) = bind2 (pk Γ x (ev T Γ x)) (pk Γ y (ev T Γ y)) (bjD b) := id rfl
@[simp] theorem ev_isi (a : CE) (t : Ty) : ev T Γ (.isi a t) = (pk Γ a (ev T Γ a)).bind (isiD t) := id rfl
@[simp] theorem ev_mt1 (m : Mt) (o a : CE) : ev T Γ (.mt1 m o a) = bind2 (pk Γ o (ev T Γ o)) (pk Γ a (ev T Γ a)) (mt1D m) := id rfl
@[simp] theorem ev_lc (e : CE) (i : Nat) (s : CI) : ev T Γ (.lc e i s) = (evi T Γ s).bind (lcK (lcF T Γ e i)) := id rfl
@[simp] theorem ev_lcc (e : CE) (i : Nat) (s : CI) (t : CT) : ev T Γ (.lcc e i s t) = (evi T Γ s).bind (lcK (lccF T Γ e i t)) := id rfl
@[simp] theorem evs_nilE : evs T Γ .nil = .ok [] := id rfl
@[simp] theorem evs_cons (e : CE) (l : CL) : evs T Γ (.cons e l) = bind2 (ev T Γ e) (evs T Γ l) consK := id rfl
@[simp] theorem evt_e (c : CE) : evt T Γ (.e c) = (pk Γ c (ev T Γ c)).bind truD := id rfl
@[simp] theorem evt_cmp (op : CO) (a b : CE) : evt T Γ (.cmp op a b) = bind2 (pk Γ a (ev T Γ a)) (pk Γ b (ev T Γ b)) (cmpD op) := id rfl
@[simp] theorem evt_chain (o1 o2 : CO) (a b c : CE) : evt T Γ (.chain o1 o2 a b c) = bind2 (pk Γ a (ev T Γ a)) (pk Γ b (ev T Γ b)) (chT o1 o2 (pk Γ c (ev T Γ c))) := id rfl
@[simp] theorem evt_and (a b : CT) : evt T Γ (.and a b) = (evt T Γ a).bind (ifK (evt T Γ b) (.ok false)) := id rfl
@[simp] theorem evt_or (a b : CT) : evt T Γ (.or a b) = (evt T Γ a).bind (ifK (.ok true) (evt T Γ b)) := id rfl
@[simp] theorem evt_not (a : CT) : evt T Γ (.not a) = (evt T Γ a).map (!·) := id rfl
@[simp] theorem evo_no : evo T Γ .no = .ok none := id rfl
@[simp] theorem evo_so (e : CE) : evo T Γ (.so e) = (ev T Γ e).bind soK := id rfl
@[simp] theorem evi_e (c : CE) : evi T Γ (.e c) = (ev T Γ c).bind itK := id rfl
@[simp] theorem evi_s (c : CE) : evi T Γ (.s c) = (ev T Γ c).bind isK := id rfl
@[simp] theorem evi_r1 (a : CE) : evi T Γ (.r1 a) = (ev T Γ a).bind r1K := id rfl
@[simp] theorem evi_r2 (a b : CE) : evi T Γ (.r2 a b) = bind2 (ev T Γ a) (ev T Γ b) r2K := id rfl
@[simp] theorem pk_var (i : Nat) (r : Res R) : pk Γ (.var i) r = rdP Γ[i]? := id rfl
@[simp] theorem pk_int (i : Int) (r : Res R) : pk Γ (.int i) r = r.map R.d := id rfl
@[simp] theorem pk_str (i : Str) (r : Res R) : pk Γ (.str i) r = r.map R.d := id rfl
@[simp] theorem pk_bl (i : Bool) (r : Res R) : pk Γ (.bl i) r = r.map R.d := id rfl
@[simp] theorem pk_non (r : Res R) : pk Γ .non r = r.map R.d := id rfl
@[simp] theorem pk_glo (i : Nat) (r : Res R) : pk Γ (.glo i) r = r.map R.d := id rfl
@[simp] theorem pk_bin (op : BO) (a b : CE) (r : Res R) : pk Γ (.bin op a b) r = r.map R.d := id rfl
@[simp] theorem pk_neg (a : CE) (r : Res R) : pk Γ (.neg a) r = r.map R.d := id rfl
@[simp] theorem pk_notv (a : CE) (r : Res R) : pk Γ (.notv a) r = r.map R.d := id rfl
@[simp] theorem pk_andv (a b : CE) (r : Res R) : pk Γ (.andv a b) r = r.map R.d := id rfl
@[simp] theorem pk_orv (a b : CE) (r : Res R) : pk Γ (.orv a b) r = r.map R.d := id rfl
@[simp] theorem pk_cmp (op : CO) (a b : CE) (r : Res R) : pk Γ (.cmp op a b) r = r.map R.d := id rfl
@[simp] theorem pk_chain (o1 o2 : CO) (a b c : CE) (r : Res R) : pk Γ (.chain o1 o2 a b c) r = r.map R.d := id rfl
@[simp] theorem pk_ifx (t : CT) (a b : CE) (r : Res R) : pk Γ (.ifx t a b) r = r.map R.d := id rfl
@[simp] theorem pk_tup (l : CL) (r : Res R) : pk Γ (.tup l) r = r.map R.d := id rfl
@[simp] theorem pk_lst (l : CL) (r : Res R) : pk Γ (.lst l) r = r.map R.d := id rfl
@[simp] theorem pk_idx (a b : CE) (r : Res R) : pk Γ (.idx a b) r = r.map R.d := id rfl
@[simp] theorem pk_sli (a : CE) (lo hi : CP) (r : Res R) : pk Γ (.sli a lo hi) r = r.map R.d := id rfl
@[simp] theorem pk_call (f : Nat) (l : CL) (r : Res R) : pk Γ (.call f l) r = r.map R.d := id rfl
@[simp] theorem pk_bi (b : Bi) (a : CE) (r : Res R) : pk Γ (.bi b a) r = r.map R.d := id rfl
@[simp] theorem pk_bj (b : Bj) (x y : CE) (r : Res R) : pk Γ (.bj b x y) r = r.map R.d := id rfl
@[simp] theorem pk_isi (a : CE) (t : Ty) (r : Res R) : pk Γ (.isi a t) r = r.map R.d := id rfl
@[simp] theorem pk_mt1 (m : Mt) (o a : CE) (r : Res R) : pk Γ (.mt1 m o a) r = r.map R.d := id rfl
@[simp] theorem pk_lc (e : CE) (i : Nat) (s : CI) (r : Res R) : pk Γ (.lc e i s) r = r.map R.d := id rfl
@[simp] theorem pk_lcc (e : CE) (i : Nat) (s : CI) (t : CT) (r : Res R) : pk Γ (.lcc e i s t) r = r.map R.d := id rfl
end
def appK (xs ds : List D) : Res (List D) := .ok (xs ++ ds)
@[simp] theorem appK_def (xs ds : List D) : appK xs ds = .ok (xs ++ ds) := id rfl
def starKK (s : Res (List D)) (x : D) : Res (List D) := match x with
  | .lst xs => s.bind (appK xs)
  | .tup xs => s.bind (appK xs)
  | _ => .bad
@[simp] theorem starKK_l (s : Res (List D)) (xs : List D) : starKK s (.lst xs) = s.bind (appK xs) := id rfl
@[simp] theorem starKK_t (s : Res (List D)) (xs : List D) : starKK s (.tup xs) = s.bind (appK xs) := id rfl
@[simp] theorem evs_star (T : Tb) (Γ : List Sl) (e : CE) (l : CL) : evs T Γ (.star e l) = (pk Γ e (ev T Γ e)).bind (starKK (evs T Γ l)) := id rfl
/-! ### statements -/
def setK (Γ : List Sl) (i : Nat) (r : R) : Res Fl := .ok (.nx (Γ.set i r.sl))
@[simp] theorem setK_def (Γ : List Sl) (i : Nat) (r : R) : setK Γ i r = .ok (.nx (Γ.set i r.sl)) := id rfl
def sidxK (Γ : List Sl) (i : Nat) (o : Option Sl) (r q : R) : Res Fl := match o, q with
    | some (.own l), .val (.int k) => match ixN l.length k with
      | some j => .ok (.nx (Γ.set i (.own (l.set j r.d))))
      | none => .bad
    | _, _ => .bad
theorem sidxK_own {Γ : List Sl} {i : Nat} {l : List D} {r : R} {k : Int} {j : Nat} (h : ixN l.length k = some j) : sidxK Γ i (some (.own l)) r (.val (.int k)) = .ok (.nx (Γ.set i (.own (l.set j r.d)))) := by
  simp only [sidxK, h]
def appS (Γ : List Sl) (i : Nat) (o : Option Sl) (r : R) : Res Fl := match o with
    | some (.own l) => need (l.length < sizeLine) (.ok (.nx (Γ.set i (.own (l ++ [r.d])))))
    | _ => .bad
@[simp] theorem appS_own (Γ : List Sl) (i : Nat) (l : List D) (r : R) : appS Γ i (some (.own l)) r = need (l.length < sizeLine) (.ok (.nx (Γ.set i (.own (l ++ [r.d]))))) := id rfl
def exK (Γ : List Sl) (_ : R) : Res Fl := .ok (.nx Γ)
@[simp] theorem exK_def (Γ : List Sl) (r : R) : exK Γ r = .ok (.nx Γ) := id rfl
def retK (r : R) : Res Fl := .ok (.rt r)
@[simp] theorem retK_def (r : R) : retK r = .ok (.rt r) := id rfl
def retvK (o : Option Sl) : Res Fl := match o with
    | some (.own l) => .ok (.rt (.own l))
    | some (.val d) => .ok (.rt (.val d))
    | _ => .bad
@[simp] theorem retvK_own (l : List D) : retvK (some (.own l)) = .ok (.rt (.own l)) := id rfl
@[simp] theorem retvK_val (d : D) : retvK (some (.val d)) = .ok (.rt (.val d)) := id rfl
/-- one way or the other, each opened only when it is known which -/
def iteB (T : Tb) (Γ : List Sl) (a b : CB) (z : Bool) : Res Fl := if z then execs T Γ a else execs T Γ b
@[simp] theorem iteB_t (T : Tb) (Γ : List Sl) (a b : CB) : iteB T Γ a b true = execs T Γ a := id rfl
@[simp] theorem iteB_f (T : Tb) (Γ : List Sl) (a b : CB) : iteB T Γ a b false = execs T Γ b := id rfl
/-- a loop's turn -/
def lpS (T : Tb) (i : Nat) (b : CB) (d : D) (Γ : List Sl) : Res Fl := execs T (Γ.set i (.val d)) b
def frK (T : Tb) (Γ : List Sl) (i : Nat) (b : CB) (ds : List D) : Res Fl := forRun (lpS T i b) ds Γ
@[simp] theorem frK_def (T : Tb) (Γ : List Sl) (i : Nat) (b : CB) (ds : List D) : frK T Γ i b ds = forRun (lpS T i b) ds Γ := id rfl
def seqK (T : Tb) (b : CB) (x : Fl) : Res Fl := match x with
    | .nx Γ' => execs T Γ' b
    | y => .ok y
@[simp] theorem seqK_nx (T : Tb) (b : CB) (Γ : List Sl) : seqK T b (.nx Γ) = execs T Γ b := id rfl
@[simp] theorem seqK_rt (T : Tb) (b : CB) (r : R) : seqK T b (.rt r) = .ok (.rt r) := id rfl
@[simp] theorem seqK_bk (T : Tb) (b : CB) (Γ : List Sl) : seqK T b (.bk Γ) = .ok (.bk Γ) := id rfl
@[simp] theorem seqK_ct (T : Tb) (b : CB) (Γ : List Sl) : seqK T b (.ct Γ) = .ok (.ct Γ) := id rfl
section
variable (T : Tb) (Γ : List Sl)
@[simp] theorem exec_set (i : Nat) (e : CE) : exec T Γ (.set i e) = (ev T Γ e).bind (setK Γ i) := id rfl
@[simp] theorem exec_sidx (i : Nat) (ix e : CE) : exec T Γ (.sidx i ix e) = bind2 (ev T Γ e) (ev T Γ ix) (sidxK Γ i Γ[i]?) := id rfl
@[simp] theorem exec_app (i : Nat) (e : CE) : exec T Γ (.app i e) = (ev T Γ e).bind (appS Γ i Γ[i]?) := id rfl
@[simp] theorem exec_ex (e : CE) : exec T Γ (.ex e) = (ev T Γ e).bind (exK Γ) := id rfl
@[simp] theorem exec_ret (e : CE) : exec T Γ (.ret e) = (ev T Γ e).bind retK := id rfl
@[simp] theorem exec_retv (i : Nat) : exec T Γ (.retv i) = retvK Γ[i]? := id rfl
@[simp] theorem exec_ret0 : exec T Γ .ret0 = .ok (.rt (.val .non)) := id rfl
@[simp] theorem exec_ite (t : CT) (a b : CB) : exec T Γ (.ite t a b) = (evt T Γ t).bind (iteB T Γ a b) := id rfl
@[simp] theorem exec_fr (i : Nat) (s : CI) (b : CB) : exec T Γ (.fr i s b) = (evi T Γ s).bind (frK T Γ i b) := id rfl
@[simp] theorem exec_brk : exec T Γ .brk = .ok (.bk Γ) := id rfl
@[simp] theorem exec_cnt : exec T Γ .cnt = .ok (.ct Γ) := id rfl
@[simp] theorem exec_pas : exec T Γ .pas = .ok (.nx Γ) := id rfl
@[simp] theorem execs_nil : execs T Γ .nil = .ok (.nx Γ) := id rfl
@[simp] theorem execs_cons (s : CS) (b : CB) : execs T Γ (.cons s b) = (exec T Γ s).bind (seqK T b) := id rfl
@[simp] theorem execs_frz (i : Nat) (b : CB) : execs T Γ (.frz i b) = execs T (frzS Γ i) b := id rfl
end
/-- a def's end -/
def endK (x : Fl) : Res R := match x with
    | .rt r => .ok r
    | .nx _ => .ok (.val .non)
    | _ => .bad
@[simp] theorem endK_rt (r : R) : endK (.rt r) = .ok r := id rfl
@[simp] theorem endK_nx (Γ : List Sl) : endK (.nx Γ) = .ok (.val .non) := id rfl
@[simp] def nos : Nat → List Sl
  | 0 => []
  | n + 1 => .no :: nos n
theorem nos_eq : ∀ n : Nat, List.replicate n Sl.no = nos n
  | 0 => rfl
  | n + 1 => by rw [List.replicate_succ, nos_eq n]; rfl
theorem runD_def (T : Tb) (n : Nat) (b : CB) (ds : List D) : runD T n b ds = (execs T (ds.map Sl.val ++ nos (n - ds.length)) b).bind endK := by
  rw [← nos_eq]; rfl
theorem forRun_nx {f : D → List Sl → Res Fl} {d : D} {r : List D} {Γ Γ' : List Sl} (h : f d Γ = .ok (.nx Γ')) : forRun f (d :: r) Γ = forRun f r Γ' := by
  simp only [forRun, h, Res.bind]
theorem forRun_ct {f : D → List Sl → Res Fl} {d : D} {r : List D} {Γ Γ' : List Sl} (h : f d Γ = .ok (.ct Γ')) : forRun f (d :: r) Γ = forRun f r Γ' := by
  simp only [forRun, h, Res.bind]
theorem forRun_bk {f : D → List Sl → Res Fl} {d : D} {r : List D} {Γ Γ' : List Sl} (h : f d Γ = .ok (.bk Γ')) : forRun f (d :: r) Γ = .ok (.nx Γ') := by
  simp only [forRun, h, Res.bind]
theorem forRun_rt {f : D → List Sl → Res Fl} {d : D} {r : List D} {Γ : List Sl} {v : R} (h : f d Γ = .ok (.rt v)) : forRun f (d :: r) Γ = .ok (.rt v) := by
  simp only [forRun, h, Res.bind]
@[simp] theorem forRun_nil {f : D → List Sl → Res Fl} {Γ : List Sl} : forRun f [] Γ = .ok (.nx Γ) := id rfl
@[simp] theorem rangeD_zero {lo : Int} : rangeD lo 0 = [] := id rfl
theorem rangeD_succ {lo : Int} {n : Nat} : rangeD lo (n + 1) = .int lo :: rangeD (lo + 1) n := by
  unfold rangeD
  rw [List.range_succ_eq_map]
  simp only [List.map_cons, List.map_map]
  congr 1
  · simp
  · apply List.map_congr_left
    intro a _
    simp only [Function.comp_apply, Nat.succ_eq_add_one]
    congr 1
    omega
theorem atI_nat' {α : Type} {l : List α} {i : Int} {a : α} (h0 : 0 ≤ i) (h : l[i.toNat]? = some a) : atI l i = some a := by
  have hi := (List.getElem?_eq_some_iff.mp h).1
  unfold atI ixN
  rw [if_pos h0, if_pos (by omega)]
  exact h
theorem small_of {i : Int} (h0 : 0 ≤ i) (h : i < 18446744073709551616) : smallI i = true := by
  unfold smallI
  simp
  omega
theorem sz : sizeLine = 16777216 := sizeLine_eq
/-! ### operations on written kinds -/
section
@[simp] theorem binD_add_int (i j : Int) : binD .add (.int i) (.int j) = .ok (.val (.int (i + j))) := id rfl
@[simp] theorem binD_sub_int (i j : Int) : binD .sub (.int i) (.int j) = .ok (.val (.int (i - j))) := id rfl
@[simp] theorem binD_mul_int (i j : Int) : binD .mul (.int i) (.int j) = need ((smallI i || smallI j) = true) (.ok (.val (.int (i * j)))) := id rfl
@[simp] theorem binD_fdiv_int (i j : Int) : binD .fdiv (.int i) (.int j) = need (0 < j ∧ j.natAbs.log2 < 9000) (.ok (.val (.int (i / j)))) := id rfl
@[simp] theorem binD_mod_int (i j : Int) : binD .mod (.int i) (.int j) = need (0 < j) (.ok (.val (.int (i % j)))) := id rfl
@[simp] theorem binD_pow_int (i j : Int) : binD .pow (.int i) (.int j) = need (0 ≤ j ∧ j ≤ 1000000 ∧ i.natAbs < 2 ^ 64) (.ok (.val (.int (i ^ j.toNat)))) := id rfl
@[simp] theorem binD_add_str (s t : Str) : binD .add (.str s) (.str t) = need (s.length + t.length ≤ sizeLine) (.ok (.val (.str (s ++ t)))) := id rfl
@[simp] theorem binD_add_lst (l m : List D) : binD .add (.lst l) (.lst m) = need (l.length + m.length ≤ sizeLine) (.ok (.own (l ++ m))) := id rfl
@[simp] theorem binD_mul_lst (l : List D) (k : Int) : binD .mul (.lst l) (.int k) = need (-(2 ^ 63) ≤ k ∧ k < 2 ^ 63 ∧ l.length * k.toNat ≤ sizeLine) (.ok (.own (List.replicate k.toNat l).flatten)) := id rfl
@[simp] theorem cmpD_lt (i j : Int) : cmpD .lt (.int i) (.int j) = .ok (decide (i < j)) := id rfl
@[simp] theorem cmpD_le (i j : Int) : cmpD .le (.int i) (.int j) = .ok (decide (i ≤ j)) := id rfl
@[simp] theorem cmpD_gt (i j : Int) : cmpD .gt (.int i) (.int j) = .ok (decide (j < i)) := id rfl
@[simp] theorem cmpD_ge (i j : Int) : cmpD .ge (.int i) (.int j) = .ok (decide (j ≤ i)) := id rfl
@[simp] theorem cmpD_eq_int (i j : Int) : cmpD .eq (.int i) (.int j) = .ok (decide (i = j)) := by
  simp [cmpD, vOf, scal, flatD, need]
@[simp] theorem cmpD_ne_int (i j : Int) : cmpD .ne (.int i) (.int j) = .ok (!decide (i = j)) := by
  simp [cmpD, vOf, scal, flatD, need]
@[simp] theorem cmpD_eq_str (i j : Str) : cmpD .eq (.str i) (.str j) = .ok (decide (i = j)) := by
  simp [cmpD, vOf, scal, flatD, need]
@[simp] theorem cmpD_ne_str (i j : Str) : cmpD .ne (.str i) (.str j) = .ok (!decide (i = j)) := by
  simp [cmpD, vOf, scal, flatD, need]
@[simp] theorem cmpD_is_bl (a b : Bool) : cmpD .is (.bl a) (.bl b) = .ok (a == b) := id rfl
@[simp] theorem cmpD_isnot_bl (a b : Bool) : cmpD .isnot (.bl a) (.bl b) = .ok (!(a == b)) := id rfl
@[simp] theorem cmpD_isin_lst (x : D) (l : List D) : cmpD .isin x (.lst l) = need (flatD x = true ∧ l.all flatD = true) (.ok (inD x l)) := by cases x <;> rfl
@[simp] theorem cmpD_isin_tup (x : D) (l : List D) : cmpD .isin x (.tup l) = need (flatD x = true ∧ l.all flatD = true) (.ok (inD x l)) := by cases x <;> rfl
@[simp] theorem cmpD_notin_lst (x : D) (l : List D) : cmpD .notin x (.lst l) = need (flatD x = true ∧ l.all flatD = true) (.ok (!inD x l)) := by cases x <;> rfl
@[simp] theorem cmpD_notin_tup (x : D) (l : List D) : cmpD .notin x (.tup l) = need (flatD x = true ∧ l.all flatD = true) (.ok (!inD x l)) := by cases x <;> rfl
@[simp] theorem cmpD_isin_chr (c : Nat) (z : Str) : cmpD .isin (.str (chr1 c)) (.str z) = .ok (decide (c ∈ z.cps.toList)) := by
  simp [cmpD, chr1]
@[simp] theorem idxD_lst (l : List D) (i : Int) : idxD (.lst l) (.int i) = match atI l i with | some d => .ok (.val d) | none => .bad := id rfl
@[simp] theorem idxD_tup (l : List D) (i : Int) : idxD (.tup l) (.int i) = match atI l i with | some d => .ok (.val d) | none => .bad := id rfl
@[simp] theorem idxD_scr (l : List Int) (i : Int) : idxD (.scr l) (.int i) = match atI l i with | some d => .ok (.val (.int d)) | none => .bad := id rfl
@[simp] theorem idxD_str (z : Str) (i : Int) : idxD (.str z) (.int i) = need (z.length ≤ sizeLine) (match atI z.cps.toList i with | some c => .ok (.val (.str (chr1 c))) | none => .bad) := id rfl
@[simp] theorem sliD_lst (l : List D) (lo hi : Option Int) : sliD (.lst l) lo hi = .ok (.own (cutD l lo hi)) := id rfl
@[simp] theorem sliD_str (z : Str) (lo hi : Option Int) : sliD (.str z) lo hi = need (z.length ≤ sizeLine) (.ok (.val (.str (cutS z lo hi)))) := id rfl
@[simp] theorem biD_len_str (z : Str) : biD .len (.str z) = need (z.length ≤ sizeLine) (.ok (.val (.int z.length))) := id rfl
@[simp] theorem biD_len_lst (l : List D) : biD .len (.lst l) = .ok (.val (.int l.length)) := id rfl
@[simp] theorem biD_len_tup (l : List D) : biD .len (.tup l) = .ok (.val (.int l.length)) := id rfl
@[simp] theorem biD_len_scr (l : List Int) : biD .len (.scr l) = .ok (.val (.int l.length)) := id rfl
@[simp] theorem biD_int (i : Int) : biD .int (.int i) = .ok (.val (.int i)) := id rfl
@[simp] theorem biD_int_bl (b : Bool) : biD .int (.bl b) = .ok (.val (.int (if b then 1 else 0))) := id rfl
@[simp] theorem bjD_min (i j : Int) : bjD .min (.int i) (.int j) = .ok (.val (.int (if j < i then j else i))) := id rfl
@[simp] theorem bjD_max (i j : Int) : bjD .max (.int i) (.int j) = .ok (.val (.int (if j > i then j else i))) := id rfl
@[simp] theorem biD_list (l : List D) : biD .list (.lst l) = .ok (.own l) := id rfl
@[simp] theorem biD_list_t (l : List D) : biD .list (.tup l) = .ok (.own l) := id rfl
@[simp] theorem biD_tuple (l : List D) : biD .tuple (.lst l) = .ok (.val (.tup l)) := id rfl
@[simp] theorem biD_tuple_t (l : List D) : biD .tuple (.tup l) = .ok (.val (.tup l)) := id rfl
theorem boolsOf_map {α : Type} (f : α → Bool) : ∀ l : List α, boolsOf (l.map fun x => .bl (f x)) = some (l.map f)
  | [] => rfl
  | x :: r => by simp only [List.map_cons, boolsOf, boolsOf_map f r, Option.map_some]
theorem strsOf_map {α : Type} (f : α → Str) : ∀ l : List α, strsOf (l.map fun x => .str (f x)) = some (l.map f)
  | [] => rfl
  | x :: r => by simp only [List.map_cons, strsOf, strsOf_map f r, Option.map_some]
theorem biD_all_map {α : Type} (f : α → Bool) (l : List α) : biD .all (.lst (l.map fun x => .bl (f x))) = .ok (.val (.bl (l.all f))) := by
  simp only [biD, boolsOf_map]
  congr 3
  simp [List.all_map]
theorem biD_any_map {α : Type} (f : α → Bool) (l : List α) : biD .any (.lst (l.map fun x => .bl (f x))) = .ok (.val (.bl (l.any f))) := by
  simp only [biD, boolsOf_map]
  congr 3
  simp [List.any_map]
@[simp] theorem truD_bl (b : Bool) : truD (.bl b) = .ok b := id rfl
@[simp] theorem truD_int (i : Int) : truD (.int i) = .ok (i != 0) := id rfl
@[simp] theorem truD_lst (l : List D) : truD (.lst l) = .ok (!l.isEmpty) := id rfl
end
/-- comprehensions by what a turn gives -/
theorem lcRun_map {f : D → Res (Option D)} {α : Type} {i : α → D} {g : α → D} : ∀ {l : List α}, (∀ x ∈ l, f (i x) = .ok (some (g x))) → lcRun f (l.map i) = .ok (l.map g)
  | [], _ => rfl
  | x :: r, h => by
    simp only [List.map_cons, lcRun, h x (by simp), Res.bind_okE, lcRun_map (l := r) fun y hy => h y (by simp [hy])]
theorem lcRun_filter {f : D → Res (Option D)} {α : Type} {i : α → D} {g : α → D} {p : α → Bool} : ∀ {l : List α}, (∀ x ∈ l, f (i x) = .ok (if p x then some (g x) else none)) → lcRun f (l.map i) = .ok ((l.filter p).map g)
  | [], _ => rfl
  | x :: r, h => by
    simp only [List.map_cons, lcRun, h x (by simp), Res.bind_okE, lcRun_filter (l := r) fun y hy => h y (by simp [hy])]
    cases hp : p x <;> simp [hp]
end NK

namespace NK
open PySem L2
def cbDraw : CB := .cons (.set 3 (.bi .int (.var 0))) (.cons (.set 4 (.lst .nil)) (.cons (.ite (.cmp .ge (.var 3) (.bin .pow (.int 10) (.int 18))) (.cons (.set 3 (.bin .sub (.var 3) (.bin .pow (.int 10) (.int 18)))) (.cons (.fr 6 (.e (.var 2)) (.cons (.app 4 (.bin .mod (.bi .int (.var 3)) (.var 6))) (.cons (.set 3 (.bin .fdiv (.var 3) (.var 6))) .nil))) (.cons (.retv 4) .nil))) (.nil)) (.cons (.fr 5 (.r1 (.bi .len (.var 2))) (.cons (.set 7 (.bin .mod (.bi .int (.bin .add (.bin .add (.bin .mul (.var 3) (.int 48271)) (.bin .mul (.bin .add (.var 5) (.bin .mul (.int 97) (.var 1))) (.int 69621))) (.int 12345))) (.int 2147483647))) (.cons (.set 8 (.bin .mod (.bi .int (.bin .add (.bin .add (.bin .mul (.var 7) (.var 7)) (.bin .mul (.var 3) (.int 40692))) (.var 5))) (.int 2147483399))) (.cons (.app 4 (.bin .mod (.bi .int (.bin .add (.bin .mul (.var 8) (.int 1000003)) (.bin .fdiv (.var 7) (.int 3)))) (.idx (.var 2) (.var 5)))) .nil)))) (.cons (.retv 4) .nil))))
/-- bases that a draw takes -/
def Bases (bs : List Int) : Prop := ∀ b ∈ bs, 0 < b ∧ b.natAbs.log2 < 9000
/-- what a draw gives -/
def Drawn (bs l : List Int) : Prop := l.length = bs.length ∧ ∀ (i : Nat) (x b : Int), l[i]? = some x → bs[i]? = some b → 0 ≤ x ∧ x < b
theorem drawA (T : Tb) (c s bb : D) : ∀ (bs : List Int) (left : Int) (out : List D) (s6 : Sl), Bases bs → out.length + bs.length < sizeLine →
    ∃ (l : List Int) (left' : Int) (s6' : Sl), Drawn bs l ∧
      forRun (lpS T 6 (.cons (.app 4 (.bin .mod (.bi .int (.var 3)) (.var 6))) (.cons (.set 3 (.bin .fdiv (.var 3) (.var 6))) .nil))) (bs.map D.int)
        [.val c, .val s, .val bb, .val (.int left), .own out, .no, s6, .no, .no] = .ok (.nx [.val c, .val s, .val bb, .val (.int left'), .own (out ++ l.map D.int), .no, s6', .no, .no])
  | [], left, out, s6, hb, hl => ⟨[], left, s6, ⟨rfl, by simp⟩, by simp⟩
  | b :: bs, left, out, s6, hb, hl => by
    have hb0 := hb b (by simp)
    have hl0 : out.length < sizeLine := by simp at hl; omega
    obtain ⟨l, left', s6', ⟨h1, h2⟩, h3⟩ := drawA T c s bb bs (left / b) (out ++ [.int (left % b)]) (.val (.int b)) (fun x hx => hb x (by simp [hx])) (by simp at hl ⊢; omega)
    refine ⟨left % b :: l, left', s6', ⟨by simp [h1], ?_⟩, ?_⟩
    · intro i x y e1 e2
      cases i with
      | zero => simp at e1 e2; subst e1 e2; exact ⟨Int.emod_nonneg _ (by omega), Int.emod_lt_of_pos _ hb0.1⟩
      | succ i => simp at e1 e2; exact h2 i x y e1 e2
    · rw [List.append_assoc] at h3
      refine (forRun_nx ?_).trans h3
      simp [lpS, hb0.1, hb0.2, hl0]
def cbDrawB : CB := .cons (.set 7 (.bin .mod (.bi .int (.bin .add (.bin .add (.bin .mul (.var 3) (.int 48271)) (.bin .mul (.bin .add (.var 5) (.bin .mul (.int 97) (.var 1))) (.int 69621))) (.int 12345))) (.int 2147483647))) (.cons (.set 8 (.bin .mod (.bi .int (.bin .add (.bin .add (.bin .mul (.var 7) (.var 7)) (.bin .mul (.var 3) (.int 40692))) (.var 5))) (.int 2147483399))) (.cons (.app 4 (.bin .mod (.bi .int (.bin .add (.bin .mul (.var 8) (.int 1000003)) (.bin .fdiv (.var 7) (.int 3)))) (.idx (.var 2) (.var 5)))) .nil))
theorem drawB (T : Tb) (c : D) (sa left : Int) (bs : List Int) (hb : Bases bs) : ∀ (n : Nat) (j : Int) (out : List D) (s5 s7 s8 : Sl), 0 ≤ j → j + n = bs.length → out.length + n < sizeLine →
    ∃ (l : List Int) (s5' s7' s8' : Sl), Drawn (bs.drop j.toNat) l ∧
      forRun (lpS T 5 cbDrawB) (rangeD j n)
        [.val c, .val (.int sa), .val (.lst (bs.map D.int)), .val (.int left), .own out, s5, .no, s7, s8] = .ok (.nx [.val c, .val (.int sa), .val (.lst (bs.map D.int)), .val (.int left), .own (out ++ l.map D.int), s5', .no, s7', s8'])
  | 0, j, out, s5, s7, s8, h0, hn, hl => ⟨[], s5, s7, s8, ⟨by simp; omega, by simp⟩, by simp⟩
  | n + 1, j, out, s5, s7, s8, h0, hn, hl => by
    have hl0 : out.length < sizeLine := by omega
    have hj : j.toNat < bs.length := by omega
    obtain ⟨b, hbj⟩ : ∃ b, bs[j.toNat]? = some b := ⟨_, List.getElem?_eq_getElem hj⟩
    have hb0 := hb b (List.mem_of_getElem? hbj)
    have hat : atI (bs.map D.int) j = some (.int b) := atI_nat' h0 (by rw [List.getElem?_map, hbj]; rfl)
    let first := (left * 48271 + (j + 97 * sa) * 69621 + 12345) % 2147483647
    have hf : smallI first = true := small_of (Int.emod_nonneg _ (by decide)) (by have := Int.emod_lt_of_pos (left * 48271 + (j + 97 * sa) * 69621 + 12345) (b := 2147483647) (by decide); show first < _; omega)
    have hf' : smallI ((left * 48271 + (j + 97 * sa) * 69621 + 12345) % 2147483647) = true := hf
    let second := (first * first + left * 40692 + j) % 2147483399
    have hs : smallI second = true := small_of (Int.emod_nonneg _ (by decide)) (by have := Int.emod_lt_of_pos (first * first + left * 40692 + j) (b := 2147483399) (by decide); show second < _; omega)
    let x := (second * 1000003 + first / 3) % b
    obtain ⟨l, s5', s7', s8', ⟨h1, h2⟩, h3⟩ := drawB T c sa left bs hb n (j + 1) (out ++ [.int x]) (.val (.int j)) (.val (.int first)) (.val (.int second)) (by omega) (by omega) (by simp; omega)
    have ej : (j + 1).toNat = j.toNat + 1 := by omega
    refine ⟨x :: l, s5', s7', s8', ⟨?_, ?_⟩, ?_⟩
    · rw [ej, List.length_drop] at h1
      simp [h1]; omega
    · intro i y z e1 e2
      cases i with
      | zero =>
        simp at e1 e2; rw [hbj] at e2; cases e1; cases e2
        exact ⟨Int.emod_nonneg _ (by omega), Int.emod_lt_of_pos _ hb0.1⟩
      | succ i =>
        simp at e1 e2
        refine h2 i y z e1 ?_
        rw [ej, List.getElem?_drop]
        rw [← e2]; congr 1; omega
    · rw [List.append_assoc] at h3
      rw [rangeD_succ]
      refine (forRun_nx ?_).trans h3
      have k1 : smallI 48271 = true := by decide
      have k2 : smallI 97 = true := by decide
      have k3 : smallI 69621 = true := by decide
      have k4 : smallI 40692 = true := by decide
      have k5 : smallI 1000003 = true := by decide
      have k6 : Nat.log2 3 < 9000 := by decide
      simp [lpS, cbDrawB, hat, hb0.1, hl0, k1, k2, k3, k4, k5, k6, hf', first, second, x]
theorem ds1 (T : Tb) (c sa : Int) (bs : List Int) (hb : Bases bs) (hl : bs.length < 100000) (h : 1000000000000000000 ≤ c) : ∃ l, Drawn bs l ∧ runD T 9 cbDraw [.int c, .int sa, .lst (bs.map D.int)] = .ok (.own (l.map D.int)) := by
  have hz := sz
  obtain ⟨l, left', s6', h1, h2⟩ := drawA T (.int c) (.int sa) (.lst (bs.map D.int)) bs (c - 1000000000000000000) [] .no hb (by rw [List.length_nil]; omega)
  refine ⟨l, h1, ?_⟩
  simp [runD_def, cbDraw, h, h2]
theorem ds2 (T : Tb) (c sa : Int) (bs : List Int) (hb : Bases bs) (hl : bs.length < 100000) (h : ¬ 1000000000000000000 ≤ c) : ∃ l, Drawn bs l ∧ runD T 9 cbDraw [.int c, .int sa, .lst (bs.map D.int)] = .ok (.own (l.map D.int)) := by
  have hz := sz
  obtain ⟨l, s5', s7', s8', h1, h2⟩ := drawB T (.int c) sa c bs hb bs.length 0 [] .no .no .no (by omega) (by simp) (by rw [List.length_nil]; omega)
  refine ⟨l, by simpa using h1, ?_⟩
  have k1 : -4611686018427387904 ≤ (bs.length : Int) := by omega
  have k2 : (bs.length : Int) < 4611686018427387904 := by omega
  unfold cbDrawB at h2
  simp [runD_def, cbDraw, h, h2, k1, k2]
theorem draw_spec (T : Tb) (c sa : Int) (bs : List Int) (hb : Bases bs) (hl : bs.length < 100000) : ∃ l, Drawn bs l ∧ runD T 9 cbDraw [.int c, .int sa, .lst (bs.map D.int)] = .ok (.own (l.map D.int)) := by
  by_cases h : 1000000000000000000 ≤ c
  · exact ds1 T c sa bs hb hl h
  · exact ds2 T c sa bs hb hl h
end NK

namespace NK
open PySem L2 TL
theorem flat_rep (n : Nat) (b : Int) : (List.replicate n [D.int b]).flatten = (List.replicate n b).map D.int := by
  induction n with
  | zero => rfl
  | succ n ih => simp only [List.replicate_succ, List.flatten_cons, ih, List.map_cons, List.singleton_append]
theorem Bases.app {a b : List Int} (h : Bases a) (k : Bases b) : Bases (a ++ b) := fun x hx => by
  rcases List.mem_append.mp hx with q | q
  · exact h x q
  · exact k x q
theorem Bases.rep {n : Nat} {b : Int} (h : 0 < b ∧ b.natAbs.log2 < 9000) : Bases (List.replicate n b) := fun x hx => by
  rw [List.eq_of_mem_replicate hx]; exact h
theorem Bases.nil : Bases [] := fun x hx => by simp at hx
theorem Bases.cons {b : Int} {l : List Int} (h : 0 < b ∧ b.natAbs.log2 < 9000) (k : Bases l) : Bases (b :: l) := fun x hx => by
  rcases List.mem_cons.mp hx with q | q
  · rw [q]; exact h
  · exact k x q
theorem Drawn.cons {b : Int} {bs l : List Int} (h : Drawn (b :: bs) l) : ∃ x r, l = x :: r ∧ 0 ≤ x ∧ x < b ∧ Drawn bs r := by
  cases l with
  | nil => have := h.1; simp at this
  | cons x r =>
    obtain ⟨h1, h2⟩ := h
    refine ⟨x, r, rfl, (h2 0 x b rfl rfl).1, (h2 0 x b rfl rfl).2, by simpa using h1, fun i y z e1 e2 => h2 (i + 1) y z (by simpa using e1) (by simpa using e2)⟩
theorem Drawn.rep {n : Nat} {b : Int} {l : List Int} (h : Drawn (List.replicate n b) l) : l.length = n ∧ ∀ x ∈ l, 0 ≤ x ∧ x < b := by
  obtain ⟨h1, h2⟩ := h
  refine ⟨by simpa using h1, fun x hx => ?_⟩
  obtain ⟨i, hi, e⟩ := List.getElem_of_mem hx
  refine h2 i x b (by rw [List.getElem?_eq_getElem hi, e]) ?_
  rw [List.getElem?_replicate, if_pos (by simp at h1; omega)]
def cbCell : CB := .cons (.ite (.cmp .lt (.var 1) (.bi .len (.var 0))) (.cons (.ret (.bi .int (.idx (.var 0) (.var 1)))) .nil) (.nil)) (.cons (.ret (.int 0)) .nil)
theorem cell_spec (T : Tb) (ns : List Int) (k : Nat) : runD T 2 cbCell [.scr ns, .int k] = .ok (.val (.int (ns.getD k 0))) := by
  by_cases h : k < ns.length
  · have h' : (k : Int) < ns.length := by omega
    have e : atI ns (k : Int) = some ns[k] := atI_nat' (by omega) (by simp [h])
    simp [runD_def, cbCell, h', e, h]
  · have h' : ¬ (k : Int) < ns.length := by omega
    simp [runD_def, cbCell, h', h]
theorem cut_from {pre rest : List D} {k : Nat} (hk : pre.length = k) (s : Int) (h0 : 0 ≤ s) : cutD (pre ++ rest) (some (k : Int)) (some ((k : Int) + s)) = rest.take s.toNat := by
  unfold cutD
  have e1 : HT.sIx (pre ++ rest).length 0 (some (k : Int)) = k := by
    rw [HT.sIx_nat]; simp; omega
  have e2 : HT.sIx (pre ++ rest).length (pre ++ rest).length (some ((k : Int) + s)) = min (k + s.toNat) (pre ++ rest).length := by
    have : (k : Int) + s = ((k + s.toNat : Nat) : Int) := by omega
    rw [this, HT.sIx_nat]
  rw [e1, e2, ← hk, List.drop_left]
  rw [List.length_append, Nat.add_min_add_left, Nat.add_sub_cancel_left]
  rw [List.take_eq_take_iff]
  omega
/-- the signs -/
def sg : List Nat := TL.tl (" !\"#$&'()*+,-./0123456789:;<=>?@ABCDEFGHIJKLMNOPQRSTUVWXYZ[\\]^_`" ++ "abcdefghijklmnopqrstuvwxyz{|}~" : Str)
theorem sg_len : sg.length = 94 := by decide +kernel
def cbText : CB := .cons (.set 1 (.str " !\"#$&'()*+,-./0123456789:;<=>?@ABCDEFGHIJKLMNOPQRSTUVWXYZ[\\]^_`")) (.cons (.set 1 (.bin .add (.var 1) (.str "abcdefghijklmnopqrstuvwxyz{|}~"))) (.cons (.ret (.mt1 .join (.str "") (.lc (.idx (.var 1) (.var 2)) 2 (.e (.var 0))))) .nil))
theorem joinE : ∀ l : List Nat, TL.tl (Txt.join "" (l.map chr1)) = l := by
  intro l
  rw [TL.join_eq, TL.tl_join]
  have e : TL.tl ("" : Str) = [] := by decide +kernel
  rw [e]
  induction l with
  | nil => rfl
  | cons c r ih =>
    cases r with
    | nil => rfl
    | cons d r => 
      show [c] ++ ([] ++ TL.joinL [] ((((d :: r)).map chr1).map TL.tl)) = _
      rw [ih]; rfl
def sgn (n : Int) : Nat := sg.getD n.toNat 0
theorem text_spec (T : Tb) (l : List Int) (hl : l.length ≤ 50) (hr : ∀ n ∈ l, 0 ≤ n ∧ n < 94) :
    ∃ z : Str, z.cps.toList = l.map sgn ∧ runD T 3 cbText [.lst (l.map D.int)] = .ok (.val (.str z)) := by
  refine ⟨Txt.join "" ((l.map sgn).map chr1), joinE _, ?_⟩
  have lr : ∀ Γ : List Sl, Γ.length = 3 → Γ[1]? = some (Sl.val (D.str (" !\"#$&'()*+,-./0123456789:;<=>?@ABCDEFGHIJKLMNOPQRSTUVWXYZ[\\]^_`" ++ "abcdefghijklmnopqrstuvwxyz{|}~"))) →
      lcRun (lcF T Γ (CE.idx (CE.var 1) (CE.var 2)) 2) (l.map D.int) = .ok (l.map fun n => D.str (chr1 (sgn n))) := fun Γ hΓ h1 =>
    lcRun_map fun n hn => by
      have h5 : (Γ.set 2 (Sl.val (D.int n)))[2]? = some (Sl.val (D.int n)) := by simp [hΓ]
      have h6 : (Γ.set 2 (Sl.val (D.int n)))[1]? = Γ[1]? := by simp
      obtain ⟨n0, n1⟩ := hr n hn
      have e : atI sg n = some (sgn n) := atI_nat' n0 (by
        have : n.toNat < sg.length := by rw [sg_len]; omega
        unfold sgn
        rw [List.getD_eq_getElem?_getD, List.getElem?_eq_getElem this]; rfl)
      have e' : atI (" !\"#$&'()*+,-./0123456789:;<=>?@ABCDEFGHIJKLMNOPQRSTUVWXYZ[\\]^_`" ++ "abcdefghijklmnopqrstuvwxyz{|}~" : Str).cps.toList n = some (sgn n) := e
      have hl : (" !\"#$&'()*+,-./0123456789:;<=>?@ABCDEFGHIJKLMNOPQRSTUVWXYZ[\\]^_`" ++ "abcdefghijklmnopqrstuvwxyz{|}~" : Str).length ≤ 16777216 := by decide +kernel
      simp only [lcF, ev_idx, pk_var, h5, h6, h1, rdP_val, bind2_ok, idxD_str, sz, e']
      rw [need_pos hl]
      rfl
  have k1 : (" !\"#$&'()*+,-./0123456789:;<=>?@ABCDEFGHIJKLMNOPQRSTUVWXYZ[\\]^_`" : Str).length + ("abcdefghijklmnopqrstuvwxyz{|}~" : Str).length ≤ 16777216 := by decide +kernel
  have k2 : l.length ≤ 16777216 := by omega
  have so : strsOf (l.map fun n => D.str (chr1 (sgn n))) = some (l.map fun n => chr1 (sgn n)) := strsOf_map _ _
  have e0 : (Str.ofString "").length = 0 := by decide +kernel
  have sm : ∀ l : List Int, (l.map ((fun x : Str => x.length) ∘ fun n => chr1 (sgn n))).sum = l.length := fun l => by
    induction l with
    | nil => rfl
    | cons a r ih => simp only [List.map_cons, List.sum_cons, ih, List.length_cons]; show 1 + _ = _; omega
  have k3 : l.length ≤ 16777216 := k2
  simp [runD_def, cbText, sz, k1, lcK, lr, k2, mt1D, so, e0, sm]
  rfl
end NK

namespace Lw
open PySem L2 NK
def top (i : Nat) : Stmt := PySem.Challenge.pw_neighbourkeys_k02_numbers.main.body.getD i (.Pass ⟨0, 0, 0, 0⟩)
/-- draw -/
def b0 : CB := .cons (.set 3 (.bi .int (.var 0))) (.cons (.set 4 (.lst .nil)) (.cons (.ite (.cmp .ge (.var 3) (.bin .pow (.int 10) (.int 18))) (.cons (.set 3 (.bin .sub (.var 3) (.bin .pow (.int 10) (.int 18)))) (.cons (.fr 6 (.e (.var 2)) (.cons (.app 4 (.bin .mod (.bi .int (.var 3)) (.var 6))) (.cons (.set 3 (.bin .fdiv (.var 3) (.var 6))) .nil))) (.cons (.retv 4) .nil))) (.nil)) (.cons (.fr 5 (.r1 (.bi .len (.var 2))) (.cons (.set 7 (.bin .mod (.bi .int (.bin .add (.bin .add (.bin .mul (.var 3) (.int 48271)) (.bin .mul (.bin .add (.var 5) (.bin .mul (.int 97) (.var 1))) (.int 69621))) (.int 12345))) (.int 2147483647))) (.cons (.set 8 (.bin .mod (.bi .int (.bin .add (.bin .add (.bin .mul (.var 7) (.var 7)) (.bin .mul (.var 3) (.int 40692))) (.var 5))) (.int 2147483399))) (.cons (.app 4 (.bin .mod (.bi .int (.bin .add (.bin .mul (.var 8) (.int 1000003)) (.bin .fdiv (.var 7) (.int 3)))) (.idx (.var 2) (.var 5)))) .nil)))) (.cons (.retv 4) .nil))))
def f0 : Fn := Fn.of (top 6) "_law_draw" ["_law_cell_here", "_law_salt", "_law_bases", "_law_left", "_law_out", "_law_k", "_law_base", "_law_first", "_law_second"] ["_law_cell_here", "_law_salt", "_law_bases"] b0
def d0 : He.DefD := ⟨("_law_draw", none), "_law_draw", "_law_draw", defArgs (top 6), defBody (top 6), defScope (top 6), [], []⟩
/-- numbers -/
def b1 : CB := .cons (.set 2 (.call 0 (.cons (.var 0) (.cons (.var 1) (.cons (.bin .add (.lst (.cons (.int 6) (.cons (.int 51) (.cons (.int 12) (.cons (.int 94) (.cons (.int 12) .nil)))))) (.bin .mul (.lst (.cons (.int 94) .nil)) (.int 50))) .nil))))) (.cons (.set 3 (.bin .mod (.bi .int (.idx (.var 2) (.int 1))) (.int 12))) (.cons (.ite (.cmp .isin (.idx (.var 2) (.int 0)) (.tup (.cons (.int 1) (.cons (.int 5) .nil)))) (.cons (.set 3 (.idx (.var 2) (.int 1))) .nil) (.nil)) (.cons (.ite (.cmp .eq (.idx (.var 2) (.int 0)) (.int 4)) (.cons (.set 3 (.bin .mod (.bi .int (.idx (.var 2) (.int 1))) (.bin .add (.int 3) (.idx (.var 2) (.int 2))))) .nil) (.nil)) (.cons (.set 4 (.sli (.var 2) (.so (.int 5)) (.so (.bin .add (.int 5) (.var 3))))) (.cons (.ite (.cmp .ge (.idx (.var 2) (.int 0)) (.int 2)) (.frz 4 (.cons (.set 4 (.lc (.bin .add (.int 15) (.bin .mod (.bi .int (.var 7)) (.int 10))) 7 (.e (.var 4)))) .nil)) (.nil)) (.cons (.ite (.and (.cmp .eq (.idx (.var 2) (.int 0)) (.int 3)) (.cmp .gt (.var 3) (.int 0))) (.cons (.set 5 (.idx (.var 2) (.int 3))) (.cons (.ite (.cmp .lt (.idx (.var 2) (.int 4)) (.int 6)) (.cons (.set 5 (.idx (.lst (.cons (.int 0) (.cons (.int 10) (.cons (.int 12) (.cons (.int 62) (.cons (.int 13) (.cons (.int 14) .nil))))))) (.idx (.var 2) (.int 4)))) .nil) (.nil)) (.cons (.sidx 4 (.bin .mod (.bi .int (.idx (.var 2) (.int 2))) (.var 3)) (.var 5)) .nil))) (.nil)) (.cons (.ite (.cmp .eq (.idx (.var 2) (.int 0)) (.int 4)) (.cons (.fr 6 (.r1 (.bj .min (.var 3) (.bin .add (.int 1) (.bin .mod (.bi .int (.idx (.var 2) (.int 2))) (.int 3))))) (.cons (.sidx 4 (.var 6) (.int 15)) .nil)) .nil) (.nil)) (.cons (.retv 4) .nil))))))))
def f1 : Fn := Fn.of (top 7) "_law_numbers" ["_law_cell_here", "_law_salt", "_law_got", "_law_size", "_law_numbers_here", "_law_sign", "_law_k", "_law_n"] ["_law_cell_here", "_law_salt"] b1
def d1 : He.DefD := ⟨("_law_numbers", none), "_law_numbers", "_law_numbers", defArgs (top 7), defBody (top 7), defScope (top 7), [], []⟩
/-- cell -/
def b2 : CB := .cons (.ite (.cmp .lt (.var 1) (.bi .len (.var 0))) (.cons (.ret (.bi .int (.idx (.var 0) (.var 1)))) .nil) (.nil)) (.cons (.ret (.int 0)) .nil)
def f2 : Fn := Fn.of (top 5) "_law_cell" ["_law_script", "_law_k"] ["_law_script", "_law_k"] b2
def d2 : He.DefD := ⟨("_law_cell", none), "_law_cell", "_law_cell", defArgs (top 5), defBody (top 5), defScope (top 5), [], []⟩
/-- worth -/
def b3 : CB := .cons (.set 1 (.int 0)) (.cons (.fr 2 (.e (.var 0)) (.cons (.ite (.or (.cmp .lt (.var 2) (.int 15)) (.cmp .gt (.var 2) (.int 24))) (.cons (.ret (.neg (.int 1))) .nil) (.nil)) (.cons (.set 1 (.bin .sub (.bin .add (.bin .mul (.var 1) (.int 10)) (.var 2)) (.int 15))) .nil))) (.cons (.ite (.or (.cmp .eq (.bi .len (.var 0)) (.int 0)) (.cmp .gt (.bi .len (.var 0)) (.int 9))) (.cons (.ret (.neg (.int 1))) .nil) (.nil)) (.cons (.ite (.and (.cmp .gt (.bi .len (.var 0)) (.int 1)) (.cmp .eq (.idx (.var 0) (.int 0)) (.int 15))) (.cons (.ret (.neg (.int 1))) .nil) (.nil)) (.cons (.retv 1) .nil))))
def f3 : Fn := Fn.of (top 9) "_law_worth" ["_law_numbers_here", "_law_worth_here", "_law_n"] ["_law_numbers_here"] b3
def d3 : He.DefD := ⟨("_law_worth", none), "_law_worth", "_law_worth", defArgs (top 9), defBody (top 9), defScope (top 9), [], []⟩
/-- read_number -/
def b4 : CB := .cons (.ite (.not (.chain .le .le (.int 1) (.bi .len (.var 0)) (.glo 1))) (.cons (.ret .non) .nil) (.nil)) (.cons (.ite (.not (.e (.bi .all (.lc (.cmp .isin (.var 1) (.glo 0)) 1 (.s (.var 0)))))) (.cons (.ret .non) .nil) (.nil)) (.cons (.ite (.and (.cmp .eq (.idx (.var 0) (.int 0)) (.str "0")) (.cmp .gt (.bi .len (.var 0)) (.int 1))) (.cons (.ret .non) .nil) (.nil)) (.cons (.ret (.bi .int (.var 0))) .nil)))
def f4 : Fn := Fn.of (top 3) "read_number" ["word", "digit"] ["word"] b4
def d4 : He.DefD := ⟨("read_number", none), "read_number", "read_number", defArgs (top 3), defBody (top 3), defScope (top 3), [], []⟩
/-- text_of -/
def b5 : CB := .cons (.set 1 (.str " !\"#$&'()*+,-./0123456789:;<=>?@ABCDEFGHIJKLMNOPQRSTUVWXYZ[\\]^_`")) (.cons (.set 1 (.bin .add (.var 1) (.str "abcdefghijklmnopqrstuvwxyz{|}~"))) (.cons (.ret (.mt1 .join (.str "") (.lc (.idx (.var 1) (.var 2)) 2 (.e (.var 0))))) .nil))
def f5 : Fn := Fn.of (top 8) "_law_text_of" ["_law_numbers_here", "_law_signs", "_law_n"] ["_law_numbers_here"] b5
def d5 : He.DefD := ⟨("_law_text_of", none), "_law_text_of", "_law_text_of", defArgs (top 8), defBody (top 8), defScope (top 8), [], []⟩
/-- law -/
def b6 : CB := .cons (.set 1 (.call 1 (.cons (.call 2 (.cons (.var 0) (.cons (.int 0) .nil))) (.cons (.int 1) .nil)))) (.cons (.set 2 (.call 1 (.cons (.call 2 (.cons (.var 0) (.cons (.int 1) .nil))) (.cons (.int 2) .nil)))) (.frz 1 (.frz 2 (.cons (.fr 3 (.e (.lst (.cons (.var 1) (.cons (.var 2) (.cons (.var 1) .nil))))) (.cons (.set 4 (.call 3 (.cons (.var 3) .nil))) (.cons (.set 5 (.call 4 (.cons (.call 5 (.cons (.var 3) .nil)) .nil))) (.cons (.ite (.cmp .lt (.var 4) (.int 0)) (.cons (.ite (.cmp .isnot (.var 5) .non) (.cons (.ret (.bl false)) .nil) (.nil)) .nil) (.cons (.ite (.or (.not (.e (.isi (.var 5) .int))) (.or (.e (.isi (.var 5) .bool)) (.cmp .ne (.var 5) (.var 4)))) (.cons (.ret (.bl false)) .nil) (.nil)) .nil)) .nil)))) (.cons (.ret (.bl true)) .nil)))))
def f6 : Fn := Fn.of (top 10) "law" ["_law_script", "_law_first", "_law_second", "_law_numbers_here", "_law_worth_here", "_law_told"] ["_law_script"] b6
def d6 : He.DefD := ⟨("law", none), "law", "law", defArgs (top 10), defBody (top 10), defScope (top 10), [], []⟩
def fns : List Fn := [f0, f1, f2, f3, f4, f5, f6]
def fn : List He.DefD := [d0, d1, d2, d3, d4, d5, d6]
def cs : List Str := ["DIGITS", "MOST_DIGITS"]
def cd : List D := [.str "0123456789", .int 9]
def fa : List He.Fa := [.glo "_law_draw", .glo "_law_numbers", .glo "_law_cell", .glo "_law_worth", .glo "read_number", .glo "_law_text_of", .glo "law", .free "len", .free "int", .free "all", .free "any", .free "list", .free "tuple", .free "str", .free "bool", .free "range", .free "min", .free "max", .free "isinstance", .str "DIGITS" "0123456789", .int "MOST_DIGITS" 9]
set_option maxHeartbeats 0 in
theorem chk : fns.all (fun f => f.chk cs (fns.map (·.name))) = true := by decide +kernel
section
variable {K : PySem.W.Frag} {h : Heap} {mg : Str → Option Value}
theorem hat (X : K.In h) (G : h.Ns mainGlobals mg) (c : He.SaysD fa fn K) : ∀ (i : Nat) (f : Fn), fns[i]? = some f → ∃ a fd, At K mg f a fd
  | 0, f, e => by
    cases e
    obtain ⟨fd, F⟩ := c.def_ 0 (d := d0) rfl
    exact ⟨_, fd, F, He.glo_ok X G (c.fact 0 (f := .glo "_law_draw") rfl), F.bindsN fun _ _ _ _ _ _ us hl => match us, hl with | [_, _, _], _ => rfl⟩
  | 1, f, e => by
    cases e
    obtain ⟨fd, F⟩ := c.def_ 1 (d := d1) rfl
    exact ⟨_, fd, F, He.glo_ok X G (c.fact 1 (f := .glo "_law_numbers") rfl), F.bindsN fun _ _ _ _ _ _ us hl => match us, hl with | [_, _], _ => rfl⟩
  | 2, f, e => by
    cases e
    obtain ⟨fd, F⟩ := c.def_ 2 (d := d2) rfl
    exact ⟨_, fd, F, He.glo_ok X G (c.fact 2 (f := .glo "_law_cell") rfl), F.bindsN fun _ _ _ _ _ _ us hl => match us, hl with | [_, _], _ => rfl⟩
  | 3, f, e => by
    cases e
    obtain ⟨fd, F⟩ := c.def_ 3 (d := d3) rfl
    exact ⟨_, fd, F, He.glo_ok X G (c.fact 3 (f := .glo "_law_worth") rfl), F.bindsN fun _ _ _ _ _ _ us hl => match us, hl with | [_], _ => rfl⟩
  | 4, f, e => by
    cases e
    obtain ⟨fd, F⟩ := c.def_ 4 (d := d4) rfl
    exact ⟨_, fd, F, He.glo_ok X G (c.fact 4 (f := .glo "read_number") rfl), F.bindsN fun _ _ _ _ _ _ us hl => match us, hl with | [_], _ => rfl⟩
  | 5, f, e => by
    cases e
    obtain ⟨fd, F⟩ := c.def_ 5 (d := d5) rfl
    exact ⟨_, fd, F, He.glo_ok X G (c.fact 5 (f := .glo "_law_text_of") rfl), F.bindsN fun _ _ _ _ _ _ us hl => match us, hl with | [_], _ => rfl⟩
  | 6, f, e => by
    cases e
    obtain ⟨fd, F⟩ := c.def_ 6 (d := d6) rfl
    exact ⟨_, fd, F, He.glo_ok X G (c.fact 6 (f := .glo "law") rfl), F.bindsN fun _ _ _ _ _ _ us hl => match us, hl with | [_], _ => rfl⟩
  | n + 7, f, e => by cases e
theorem hblt (X : K.In h) (G : h.Ns mainGlobals mg) (c : He.SaysD fa fn K) : ∀ x ∈ bltNames, mg x = none := by
  intro x hx
  simp only [bltNames, List.mem_cons, List.mem_nil_iff, or_false] at hx
  rcases hx with rfl | rfl | rfl | rfl | rfl | rfl | rfl | rfl | rfl | rfl | rfl | rfl
  · exact He.free_ok X G (c.fact 7 (f := .free "len") rfl)
  · exact He.free_ok X G (c.fact 8 (f := .free "int") rfl)
  · exact He.free_ok X G (c.fact 9 (f := .free "all") rfl)
  · exact He.free_ok X G (c.fact 10 (f := .free "any") rfl)
  · exact He.free_ok X G (c.fact 11 (f := .free "list") rfl)
  · exact He.free_ok X G (c.fact 12 (f := .free "tuple") rfl)
  · exact He.free_ok X G (c.fact 13 (f := .free "str") rfl)
  · exact He.free_ok X G (c.fact 14 (f := .free "bool") rfl)
  · exact He.free_ok X G (c.fact 15 (f := .free "range") rfl)
  · exact He.free_ok X G (c.fact 16 (f := .free "min") rfl)
  · exact He.free_ok X G (c.fact 17 (f := .free "max") rfl)
  · exact He.free_ok X G (c.fact 18 (f := .free "isinstance") rfl)
theorem hglo (X : K.In h) (G : h.Ns mainGlobals mg) (c : He.SaysD fa fn K) : ∀ (j : Nat) (x : Str), cs[j]? = some x → ∃ d v u, cd[j]? = some d ∧ mg x = some u ∧ RelV v u ∧ ∀ F, Rp K F d v
  | 0, x, e => by
    cases e
    obtain ⟨t, q⟩ := He.str_ok X G (c.fact 19 (f := .str "DIGITS" "0123456789") rfl)
    exact ⟨_, .str "0123456789", _, rfl, q, ⟨t, rfl⟩, fun F => by unfold Rp; rfl⟩
  | 1, x, e => by
    cases e
    obtain ⟨t, q⟩ := He.int_ok X G (c.fact 20 (f := .int "MOST_DIGITS" 9) rfl)
    exact ⟨_, .int 9, _, rfl, q, ⟨t, rfl⟩, fun F => by unfold Rp; rfl⟩
  | n + 2, x, e => by cases e
end
abbrev R : PySem.W.OpenRow := PySem.W.OpenLaw.row PySem.Challenge.rw_neighbourkeys_k02_numbers
abbrev hk : PySem.W.Hook := He.hookD 4 fa fn
def ob (s : PySem.W.SharedT) : He.AlD := He.obsDG 4 fa fn (HandSHeadRun.getT s)
theorem ob_eq (s : PySem.W.SharedT) : ob s = hk.obs s.abs := He.obsDG_eq (HandSHeadRun.getT_eq s)
def loose : List Str := ["DIGITS", "MOST_DIGITS", "read_number", "_law_cell", "_law_draw", "_law_numbers", "_law_text_of", "_law_worth"]
theorem run (w : World) : HandSHeadRun.RunEq R (PySem.W.view R.prog [10]) hk ob 2000 loose w := by
  intro os
  kernel_rfl
end Lw

namespace Lw
open PySem L2 TL NK
def Good (l : List Int) : Prop := l.length ≤ 50 ∧ ∀ n ∈ l, 0 ≤ n ∧ n < 94
theorem Good.set {l : List Int} (h : Good l) (i : Nat) {n : Int} (h0 : 0 ≤ n) (h1 : n < 94) : Good (l.set i n) := by
  refine ⟨by rw [List.length_set]; exact h.1, fun m hm => ?_⟩
  rcases List.mem_or_eq_of_mem_set hm with q | q
  · exact h.2 m q
  · rw [q]; exact ⟨h0, h1⟩
/-- the first places become nought -/
theorem zeros (T : Tb) (s0 s1 s2 s3 s5 s7 : Sl) : ∀ (n : Nat) (j : Int) (l : List Int) (s6 : Sl), 0 ≤ j → j + n ≤ l.length → Good l →
    ∃ (l' : List Int) (s6' : Sl), Good l' ∧ forRun (lpS T 6 (.cons (.sidx 4 (.var 6) (.int 15)) .nil)) (rangeD j n) [s0, s1, s2, s3, .own (l.map D.int), s5, s6, s7] = .ok (.nx [s0, s1, s2, s3, .own (l'.map D.int), s5, s6', s7])
  | 0, j, l, s6, h0, hl, g => ⟨l, s6, g, by simp⟩
  | n + 1, j, l, s6, h0, hl, g => by
    obtain ⟨l', s6', g', h⟩ := zeros T s0 s1 s2 s3 s5 s7 n (j + 1) (l.set j.toNat 15) (.val (.int j)) (by omega) (by rw [List.length_set]; omega) (g.set _ (by decide) (by decide))
    refine ⟨l', s6', g', ?_⟩
    rw [rangeD_succ]
    refine (forRun_nx ?_).trans h
    have ix : ixN l.length j = some j.toNat := by
      unfold ixN
      rw [if_pos h0, if_pos (by omega)]
    simp [lpS, sidxK, ix, List.map_set]
theorem numbers_spec (T : Tb) (hd : ∀ c sa bs, Bases bs → bs.length < 100000 → ∃ l, Drawn bs l ∧ T.fs 0 [.int c, .int sa, .lst (bs.map D.int)] = .ok (.own (l.map D.int))) (c sa : Int) :
    ∃ l : List Int, Good l ∧ runD T 8 b1 [.int c, .int sa] = .ok (.own (l.map D.int)) := by
  have hz := sz
  have b5 : ∀ b : Int, 0 < b → b < 1000 → 0 < b ∧ b.natAbs.log2 < 9000 := fun b h0 h1 => ⟨h0, by
    have : b.natAbs.log2 ≤ b.natAbs := Nat.log2_le_self _
    omega⟩
  obtain ⟨l, hl, hdr⟩ := hd c sa (6 :: 51 :: 12 :: 94 :: 12 :: List.replicate 50 94) (.cons (b5 _ (by decide) (by decide)) (.cons (b5 _ (by decide) (by decide)) (.cons (b5 _ (by decide) (by decide)) (.cons (b5 _ (by decide) (by decide)) (.cons (b5 _ (by decide) (by decide)) (.rep (b5 _ (by decide) (by decide))))))))  (by simp)
  obtain ⟨g0, l, rfl, a0, b0, hl⟩ := hl.cons
  obtain ⟨g1, l, rfl, a1, b1', hl⟩ := hl.cons
  obtain ⟨g2, l, rfl, a2, b2, hl⟩ := hl.cons
  obtain ⟨g3, l, rfl, a3, b3, hl⟩ := hl.cons
  obtain ⟨g4, rest, rfl, a4, b4, hl⟩ := hl.cons
  obtain ⟨hlen, hr⟩ := hl.rep
  simp only [List.map_cons, List.map_replicate] at hdr
  have cut : ∀ s : Int, 0 ≤ s → cutD (D.int g0 :: D.int g1 :: D.int g2 :: D.int g3 :: D.int g4 :: rest.map D.int) (some 5) (some (5 + s)) = (rest.take s.toNat).map D.int := fun s h => by
    have := cut_from (pre := [D.int g0, D.int g1, D.int g2, D.int g3, D.int g4]) (rest := rest.map D.int) (k := 5) rfl s h
    rw [List.map_take]
    exact this
  have e12 : 0 ≤ g1 % 12 := Int.emod_nonneg _ (by decide)
  have f12 : g1 % 12 < 12 := Int.emod_lt_of_pos _ (by decide)
  have gd : ∀ s : Int, Good (rest.take s.toNat) := fun s => ⟨by rw [List.length_take]; omega, fun n h => hr n (List.mem_of_mem_take h)⟩
  have gm : ∀ s : Int, Good ((rest.take s.toNat).map fun n => 15 + n % 10) := fun s => by
    refine ⟨by rw [List.length_map]; exact (gd s).1, fun n hn => ?_⟩
    obtain ⟨m, _, rfl⟩ := List.mem_map.mp hn
    have := Int.emod_nonneg m (b := 10) (by decide)
    have := Int.emod_lt_of_pos m (b := 10) (by decide)
    omega
  have at0 : ∀ r : List D, atI (D.int g0 :: r) 0 = some (.int g0) := fun r => atI_nat' (by decide) rfl
  have at1 : ∀ r : List D, atI (D.int g0 :: D.int g1 :: r) 1 = some (.int g1) := fun r => atI_nat' (by decide) rfl
  have at2 : ∀ r : List D, atI (D.int g0 :: D.int g1 :: D.int g2 :: r) 2 = some (.int g2) := fun r => atI_nat' (by decide) rfl
  have at3 : ∀ r : List D, atI (D.int g0 :: D.int g1 :: D.int g2 :: D.int g3 :: r) 3 = some (.int g3) := fun r => atI_nat' (by decide) rfl
  have at4 : ∀ r : List D, atI (D.int g0 :: D.int g1 :: D.int g2 :: D.int g3 :: D.int g4 :: r) 4 = some (.int g4) := fun r => atI_nat' (by decide) rfl
  have hg : g0 = 0 ∨ g0 = 1 ∨ g0 = 2 ∨ g0 = 3 ∨ g0 = 4 ∨ g0 = 5 := by omega
  have lcm : ∀ s : Int, ∀ Γ : List Sl, Γ.length = 8 → lcRun (lcF T Γ (CE.bin BO.add (CE.int 15) (CE.bin BO.mod (CE.bi Bi.int (CE.var 7)) (CE.int 10))) 7) ((rest.take s.toNat).map D.int) = .ok (((rest.take s.toNat).map fun n => 15 + n % 10).map D.int) := fun s Γ hΓ => by
    refine lcRun_map (l := rest.take s.toNat) (i := D.int) (g := fun n => D.int (15 + n % 10)) (fun n _ => ?_) |>.trans (by rw [List.map_map]; rfl)
    have h5 : (Γ.set 7 (Sl.val (D.int n)))[7]? = some (Sl.val (D.int n)) := by simp [hΓ]
    simp [lcF, sz, h5]
  have hm : ∀ n : Nat, min n rest.length ≤ 16777216 := fun n => by omega
  rcases hg with rfl | rfl | rfl | rfl | rfl | rfl
  · refine ⟨rest.take (g1 % 12).toNat, gd _, ?_⟩
    simp [-List.reduceReplicate, -List.map_take, runD_def, b1, hdr, at0, at1, inD, inV, eqV, vOf, flatD, cut _ e12, sz, frzS]
  · refine ⟨rest.take g1.toNat, gd _, ?_⟩
    simp [-List.reduceReplicate, -List.map_take, runD_def, b1, hdr, at0, at1, inD, inV, eqV, vOf, flatD, cut _ a1, sz, frzS]
  · refine ⟨(rest.take (g1 % 12).toNat).map (fun n => 15 + n % 10), gm _, ?_⟩
    simp [-List.reduceReplicate, -List.map_take, runD_def, b1, hdr, at0, at1, inD, inV, eqV, vOf, flatD, cut _ e12, sz, frzS, lcK, lcm, hm]
  · by_cases hs : 0 < g1 % 12
    · have q0 : 0 ≤ g2 % (g1 % 12) := Int.emod_nonneg _ (by omega)
      have q1 : g2 % (g1 % 12) < g1 % 12 := Int.emod_lt_of_pos _ hs
      have ix : ixN (min (g1 % 12).toNat rest.length) (g2 % (g1 % 12)) = some (g2 % (g1 % 12)).toNat := by
        unfold ixN
        rw [if_pos q0, if_pos (by rw [hlen]; omega)]
      by_cases h6 : g4 < 6
      · have hg4 : ∃ v : Int, 0 ≤ v ∧ v < 94 ∧ atI [D.int 0, D.int 10, D.int 12, D.int 62, D.int 13, D.int 14] g4 = some (.int v) := by
          have : g4 = 0 ∨ g4 = 1 ∨ g4 = 2 ∨ g4 = 3 ∨ g4 = 4 ∨ g4 = 5 := by omega
          rcases this with rfl | rfl | rfl | rfl | rfl | rfl <;> exact ⟨_, by decide, by decide, rfl⟩
        obtain ⟨v, v0, v1, hv⟩ := hg4
        refine ⟨((rest.take (g1 % 12).toNat).map (fun n => 15 + n % 10)).set (g2 % (g1 % 12)).toNat v, (gm _).set _ v0 v1, ?_⟩
        simp [-List.reduceReplicate, -List.map_take, runD_def, b1, hdr, at0, at1, at2, at3, at4, inD, inV, eqV, vOf, flatD, cut _ e12, sz, frzS, lcK, lcm, hm, hs, sidxK, ix, List.map_set, h6, hv]
      · refine ⟨((rest.take (g1 % 12).toNat).map (fun n => 15 + n % 10)).set (g2 % (g1 % 12)).toNat g3, (gm _).set _ a3 b3, ?_⟩
        simp [-List.reduceReplicate, -List.map_take, runD_def, b1, hdr, at0, at1, at2, at3, at4, inD, inV, eqV, vOf, flatD, cut _ e12, sz, frzS, lcK, lcm, hm, hs, sidxK, ix, List.map_set, h6]
    · refine ⟨(rest.take (g1 % 12).toNat).map (fun n => 15 + n % 10), gm _, ?_⟩
      simp [-List.reduceReplicate, -List.map_take, runD_def, b1, hdr, at0, at1, inD, inV, eqV, vOf, flatD, cut _ e12, sz, frzS, lcK, lcm, hm, hs]
  · have p3 : 0 < 3 + g2 := by omega
    have q0 : 0 ≤ g1 % (3 + g2) := Int.emod_nonneg _ (by omega)
    have q1 : g1 % (3 + g2) < 3 + g2 := Int.emod_lt_of_pos _ p3
    have r0 : 0 ≤ g2 % 3 := Int.emod_nonneg _ (by decide)
    have r1 : g2 % 3 < 3 := Int.emod_lt_of_pos _ (by decide)
    generalize hsz : g1 % (3 + g2) = s at *
    generalize hm3 : (if 1 + g2 % 3 < s then 1 + g2 % 3 else s) = m
    have hm0 : 0 ≤ m ∧ m ≤ s := by subst hm3; split <;> omega
    have hlen2 : ((rest.take s.toNat).map (fun n => 15 + n % 10)).length = s.toNat := by rw [List.length_map, List.length_take]; omega
    obtain ⟨l', s6', g', hz'⟩ := zeros T (.val (.int c)) (.val (.int sa)) (.own (D.int 4 :: D.int g1 :: D.int g2 :: D.int g3 :: D.int g4 :: rest.map D.int)) (.val (.int s)) .no .no m.toNat 0 ((rest.take s.toNat).map fun n => 15 + n % 10) .no (by decide) (by rw [hlen2]; omega) (gm s)
    refine ⟨l', g', ?_⟩
    have k1 : -4611686018427387904 ≤ m := by omega
    have k2 : m < 4611686018427387904 := by omega
    simp only [List.map_map] at hz'
    simp [-List.reduceReplicate, -List.map_take, runD_def, b1, hdr, at0, at1, at2, inD, inV, eqV, vOf, flatD, cut _ q0, sz, frzS, lcK, lcm, hm, p3, hsz, hm3, k1, k2, hz']
  · refine ⟨(rest.take g1.toNat).map (fun n => 15 + n % 10), gm _, ?_⟩
    simp [-List.reduceReplicate, -List.map_take, runD_def, b1, hdr, at0, at1, inD, inV, eqV, vOf, flatD, cut _ a1, sz, frzS, lcK, lcm, hm]
def dig (n : Int) : Bool := decide (15 ≤ n) && decide (n ≤ 24)
def vl (w : Int) (l : List Int) : Int := l.foldl (fun a n => a * 10 + n - 15) w
def bW : CB := .cons (.ite (.or (.cmp .lt (.var 2) (.int 15)) (.cmp .gt (.var 2) (.int 24))) (.cons (.ret (.neg (.int 1))) .nil) (.nil)) (.cons (.set 1 (.bin .sub (.bin .add (.bin .mul (.var 1) (.int 10)) (.var 2)) (.int 15))) .nil)
theorem worth_t (T : Tb) (s0 : Sl) : ∀ (l : List Int) (w : Int) (s2 : Sl), l.all dig = true → ∃ s2', forRun (lpS T 2 bW) (l.map D.int) [s0, .val (.int w), s2] = .ok (.nx [s0, .val (.int (vl w l)), s2'])
  | [], w, s2, _ => ⟨s2, by simp [vl]⟩
  | n :: l, w, s2, h => by
    simp only [List.all_cons, Bool.and_eq_true, dig, decide_eq_true_eq] at h
    obtain ⟨s2', h'⟩ := worth_t T s0 l (w * 10 + n - 15) (.val (.int n)) (by simpa [dig] using h.2)
    refine ⟨s2', ?_⟩
    have q1 : ¬ n < 15 := by omega
    have q2 : ¬ 24 < n := by omega
    have q3 : smallI 10 = true := by decide
    refine (forRun_nx ?_).trans h'
    simp [lpS, bW, q1, q2, q3]
theorem worth_f (T : Tb) (s0 : Sl) : ∀ (l : List Int) (w : Int) (s2 : Sl), l.all dig = false → forRun (lpS T 2 bW) (l.map D.int) [s0, .val (.int w), s2] = .ok (.rt (.val (.int (-1))))
  | [], w, s2, h => by simp at h
  | n :: l, w, s2, h => by
    have q3 : smallI 10 = true := by decide
    by_cases hn : 15 ≤ n ∧ n ≤ 24
    · have h2 : l.all dig = false := by
        have hd : dig n = true := by simp [dig, hn.1, hn.2]
        simpa [List.all_cons, hd] using h
      have q1 : ¬ n < 15 := by omega
      have q2 : ¬ 24 < n := by omega
      refine (forRun_nx ?_).trans (worth_f T s0 l (w * 10 + n - 15) (.val (.int n)) h2)
      simp [lpS, bW, q1, q2, q3]
    · refine forRun_rt ?_
      by_cases q1 : n < 15
      · simp [lpS, bW, q1]
      · have q2 : 24 < n := by omega
        simp [lpS, bW, q1, q2]
/-- does the list write a number -/
def isNum (l : List Int) : Bool := l.all dig && decide (1 ≤ l.length) && decide (l.length ≤ 9) && !(decide (1 < l.length) && decide (l.head? = some 15))
theorem worth_spec (T : Tb) (l : List Int) : runD T 3 b3 [.lst (l.map D.int)] = .ok (.val (.int (if isNum l = true then vl 0 l else -1))) := by
  have eb : b3 = .cons (.set 1 (.int 0)) (.cons (.fr 2 (.e (.var 0)) bW) (.cons (.ite (.or (.cmp .eq (.bi .len (.var 0)) (.int 0)) (.cmp .gt (.bi .len (.var 0)) (.int 9))) (.cons (.ret (.neg (.int 1))) .nil) (.nil)) (.cons (.ite (.and (.cmp .gt (.bi .len (.var 0)) (.int 1)) (.cmp .eq (.idx (.var 0) (.int 0)) (.int 15))) (.cons (.ret (.neg (.int 1))) .nil) (.nil)) (.cons (.retv 1) .nil)))) := rfl
  rw [eb]
  by_cases hA : l.all dig = true
  · obtain ⟨s2', hw⟩ := worth_t T (.val (.lst (l.map D.int))) l 0 .no hA
    cases l with
    | nil => simp [runD_def, isNum, hw]
    | cons n r =>
      have z0 : ¬ (((n :: r).length : Nat) : Int) = 0 := by simp; omega
      have at0 : ∀ q : List D, atI (D.int n :: q) 0 = some (.int n) := fun q => atI_nat' (by decide) rfl
      have c0 : ¬ ((r.length : Int) + 1 = 0) := by omega
      simp only [List.map_cons] at hw
      by_cases h9 : (n :: r).length ≤ 9
      · have c1 : ¬ (9 : Int) < (r.length : Int) + 1 := by rw [List.length_cons] at h9; omega
        by_cases h1 : 1 < (n :: r).length
        · have c2 : (1 : Int) < (r.length : Int) + 1 := by rw [List.length_cons] at h1; omega
          have h1' : 0 < r.length := by simpa using h1
          by_cases h15 : n = 15
          · have en : isNum (n :: r) = false := by simp [isNum, h15, h1']
            simp [runD_def, hw, c0, c1, c2, at0, h15, en]
            simp [h15] at hw en at0
            simp [hw, c0, c1, c2, at0, en]
          · have en : isNum (n :: r) = true := by
              rw [List.length_cons] at h9 h1
              have k1 : decide ((n :: r).length ≤ 9) = true := decide_eq_true (by rw [List.length_cons]; omega)
              have k2 : decide (1 ≤ (n :: r).length) = true := decide_eq_true (by rw [List.length_cons]; omega)
              have k3 : decide ((n :: r).head? = some 15) = false := decide_eq_false (by simpa using h15)
              simp only [isNum, hA, k1, k2, k3]; simp
            simp [runD_def, hw, c0, c1, c2, at0, h15, en]
        · have c2 : ¬ (1 : Int) < (r.length : Int) + 1 := by rw [List.length_cons] at h1; omega
          have en : isNum (n :: r) = true := by
            have k1 : decide ((n :: r).length ≤ 9) = true := decide_eq_true h9
            have k2 : decide (1 ≤ (n :: r).length) = true := decide_eq_true (by rw [List.length_cons]; omega)
            have k3 : decide (1 < (n :: r).length) = false := decide_eq_false h1
            simp only [isNum, hA, k1, k2, k3]; simp
          simp [runD_def, hw, c0, c1, c2, at0, en]
      · have c1 : (9 : Int) < (r.length : Int) + 1 := by rw [List.length_cons] at h9; omega
        have en : isNum (n :: r) = false := by
          have : decide ((n :: r).length ≤ 9) = false := decide_eq_false h9
          simp only [isNum, this]; simp
        simp [runD_def, hw, c0, c1, en]
  · have hA' : l.all dig = false := by simpa using hA
    have hw := worth_f T (.val (.lst (l.map D.int))) l 0 .no hA'
    have en : isNum l = false := by simp only [isNum, hA']; rfl
    simp [runD_def, hw, en]
def dg : List Nat := TL.tl ("0123456789" : Str)
theorem sg_dg : ∀ n : Fin 94, (sg.getD n.val 0 ∈ dg) ↔ (15 ≤ n.val ∧ n.val ≤ 24) := by decide +kernel
theorem sg_48 : ∀ n : Fin 94, (sg.getD n.val 0 = 48) ↔ n.val = 15 := by decide +kernel
theorem sg_dv : ∀ n : Fin 94, (15 ≤ n.val ∧ n.val ≤ 24) → sg.getD n.val 0 = n.val + 33 := by decide +kernel
theorem sgn_dg {n : Int} (h0 : 0 ≤ n) (h1 : n < 94) : decide (sgn n ∈ dg) = dig n := by
  have e : (sg.getD n.toNat 0 ∈ dg) ↔ (15 ≤ n.toNat ∧ n.toNat ≤ 24) := sg_dg ⟨n.toNat, by omega⟩
  unfold sgn dig
  rw [Bool.eq_iff_iff]
  simp only [decide_eq_true_eq, e, Bool.and_eq_true]
  omega
theorem vl_digits : ∀ (l : List Int) (w : Nat), (∀ n ∈ l, 15 ≤ n ∧ n ≤ 24) → (((l.map sgn).foldl (fun acc c => acc * 10 + (c - 48)) w : Nat) : Int) = vl w l
  | [], w, _ => rfl
  | n :: l, w, h => by
    have hn := h n (by simp)
    have e : sgn n = n.toNat + 33 := sg_dv ⟨n.toNat, by omega⟩ (by show 15 ≤ n.toNat ∧ n.toNat ≤ 24; omega)
    have := vl_digits l (w * 10 + (n.toNat + 33 - 48)) (fun m hm => h m (by simp [hm]))
    simp only [List.map_cons, List.foldl_cons, e]
    rw [this]
    unfold vl
    rw [List.foldl_cons]
    congr 1
    omega
theorem read_spec (T : Tb) (h0 : T.cs[0]? = some (.str "0123456789")) (h1 : T.cs[1]? = some (.int 9)) (l : List Int) (g : Good l) (z : Str) (hz : z.cps.toList = l.map sgn) :
    runD T 2 b4 [.str z] = .ok (.val (if isNum l = true then .int (vl 0 l) else .non)) := by
  have zl : z.length = l.length := by rw [TL.len_tl]; show z.cps.toList.length = _; rw [hz]; simp
  have gl := g.1
  have hs : z.length ≤ 16777216 := by omega
  have e3 : z.cps.size ≤ 16777216 := hs
  by_cases hP : 1 ≤ l.length ∧ l.length ≤ 9
  · have e1 : (1 : Int) ≤ z.length := by omega
    have e2 : (z.length : Int) ≤ 9 := by omega
    have lr : ∀ Γ : List Sl, Γ.length = 2 → lcRun (lcF T Γ (CE.cmp CO.isin (CE.var 1) (CE.glo 0)) 1) (z.cps.toList.map fun c => D.str (chr1 c)) = .ok (z.cps.toList.map fun c => D.bl (decide (c ∈ dg))) := fun Γ hΓ =>
      lcRun_map fun c _ => by
        have h5 : (Γ.set 1 (Sl.val (D.str (chr1 c))))[1]? = some (Sl.val (D.str (chr1 c))) := by simp [hΓ]
        simp [lcF, h5, h0, dg]
    have al : (z.cps.toList.all fun c => decide (c ∈ dg)) = l.all dig := by
      rw [hz, List.all_map, Bool.eq_iff_iff, List.all_eq_true, List.all_eq_true]
      constructor
      · intro h n hm
        have := h n hm
        rw [← sgn_dg (g.2 n hm).1 (g.2 n hm).2]; exact this
      · intro h n hm
        show decide (sgn n ∈ dg) = true
        rw [sgn_dg (g.2 n hm).1 (g.2 n hm).2]; exact h n hm
    have al2 : biD .all (.lst (z.cps.toList.map fun c => D.bl (decide (c ∈ dg)))) = .ok (.val (.bl (l.all dig))) := by rw [biD_all_map, al]
    cases hl : l with
    | nil => rw [hl] at hP; simp at hP
    | cons n r =>
      have hn := g.2 n (by rw [hl]; simp)
      have a0 : atI z.cps.toList 0 = some (sgn n) := atI_nat' (by decide) (by rw [hz, hl]; rfl)
      have k48 : (chr1 (sgn n) = ("0" : Str)) ↔ n = 15 := by
        have e : (sg.getD n.toNat 0 = 48) ↔ n.toNat = 15 := sg_48 ⟨n.toNat, by omega⟩
        have e0 : ("0" : Str) = chr1 48 := by decide +kernel
        rw [e0]
        unfold chr1 sgn
        constructor
        · intro q
          have : sg.getD n.toNat 0 = 48 := by
            injection q with q
            have := congrArg Array.toList q
            simpa using this
          have := e.mp this
          omega
        · intro q
          have : sg.getD n.toNat 0 = 48 := e.mpr (by omega)
          rw [this]
      rw [← hl]
      by_cases hA : l.all dig = true
      · have hdv : PySem.intText? z = some (vl 0 l) := by
          have hdig : ∀ n ∈ l, 15 ≤ n ∧ n ≤ 24 := fun n hm => by
            have := List.all_eq_true.mp hA n hm
            simpa [dig] using this
          rw [PySem.intText_digits (x := z) (fun c hc => ?_) (by rw [hz, hl]; simp) (by omega), hz]
          · exact congrArg some (vl_digits l 0 hdig)
          · rw [hz] at hc
            obtain ⟨m, hm, rfl⟩ := List.mem_map.mp hc
            have hd := hdig m hm
            have e : sgn m = m.toNat + 33 := sg_dv ⟨m.toNat, by omega⟩ (by show 15 ≤ m.toNat ∧ m.toNat ≤ 24; omega)
            rw [e]; omega
        have z640 : z.length ≤ 640 := by omega
        have bi : biD .int (.str z) = .ok (.val (.int (vl 0 l))) := by
          simp only [biD, hdv]
          exact need_pos z640
        by_cases h1' : 1 < l.length
        · have c2 : (1 : Int) < z.length := by omega
          by_cases h15 : n = 15
          · have en : isNum l = false := by
              have k3 : decide (l.head? = some 15) = true := decide_eq_true (by rw [hl, h15]; rfl)
              have k4 : decide (1 < l.length) = true := decide_eq_true h1'
              simp only [isNum, k3, k4]; simp
            have k := k48.mpr h15
            simp [-List.all_eq_true, runD_def, b4, sz, hs, h1, chT, e1, e2, lcK, lr, e3, al2, hA, a0, k, c2, en]
          · have en : isNum l = true := by
              have k1 : decide (l.length ≤ 9) = true := decide_eq_true hP.2
              have k2 : decide (1 ≤ l.length) = true := decide_eq_true hP.1
              have k3 : decide (l.head? = some 15) = false := decide_eq_false (by rw [hl]; simpa using h15)
              simp only [isNum, hA, k1, k2, k3]; simp
            have k : ¬ chr1 (sgn n) = ("0" : Str) := fun q => h15 (k48.mp q)
            simp [-List.all_eq_true, runD_def, b4, sz, hs, h1, chT, e1, e2, lcK, lr, e3, al2, hA, a0, k, bi, en]
        · have c2 : ¬ (1 : Int) < z.length := by omega
          have en : isNum l = true := by
            have k1 : decide (l.length ≤ 9) = true := decide_eq_true hP.2
            have k2 : decide (1 ≤ l.length) = true := decide_eq_true hP.1
            have k3 : decide (1 < l.length) = false := decide_eq_false h1'
            simp only [isNum, hA, k1, k2, k3]; simp
          by_cases k : chr1 (sgn n) = ("0" : Str)
          · simp [-List.all_eq_true, runD_def, b4, sz, hs, h1, chT, e1, e2, lcK, lr, e3, al2, hA, a0, k, c2, bi, en]
          · simp [-List.all_eq_true, runD_def, b4, sz, hs, h1, chT, e1, e2, lcK, lr, e3, al2, hA, a0, k, bi, en]
      · have hA' : l.all dig = false := by simpa using hA
        have en : isNum l = false := by simp only [isNum, hA']; rfl
        simp [-List.all_eq_true, -List.all_eq_false, runD_def, b4, sz, hs, h1, chT, e1, e2, lcK, lr, e3, al2, hA', en]
  · have en : isNum l = false := by
      by_cases q : 1 ≤ l.length
      · have k1 : decide (l.length ≤ 9) = false := decide_eq_false (by omega)
        simp only [isNum, k1]; simp
      · have k1 : decide (1 ≤ l.length) = false := decide_eq_false q
        simp only [isNum, k1]; simp
    by_cases g1 : (1 : Int) ≤ z.length
    · have g2 : ¬ (z.length : Int) ≤ 9 := by omega
      simp [runD_def, b4, sz, hs, h1, chT, g1, g2, en]
    · simp [runD_def, b4, sz, hs, h1, chT, g1, en]
theorem vl_nonneg : ∀ (l : List Int) (w : Int), 0 ≤ w → l.all dig = true → 0 ≤ vl w l
  | [], w, h, _ => h
  | n :: l, w, h, hA => by
    simp only [List.all_cons, Bool.and_eq_true, dig, decide_eq_true_eq] at hA
    exact vl_nonneg l (w * 10 + n - 15) (by omega) (by simpa [dig] using hA.2)
def bT : CB := .cons (.set 4 (.call 3 (.cons (.var 3) .nil))) (.cons (.set 5 (.call 4 (.cons (.call 5 (.cons (.var 3) .nil)) .nil))) (.cons (.ite (.cmp .lt (.var 4) (.int 0)) (.cons (.ite (.cmp .isnot (.var 5) .non) (.cons (.ret (.bl false)) .nil) (.nil)) .nil) (.cons (.ite (.or (.not (.e (.isi (.var 5) .int))) (.or (.e (.isi (.var 5) .bool)) (.cmp .ne (.var 5) (.var 4)))) (.cons (.ret (.bl false)) .nil) (.nil)) .nil)) .nil))
theorem turn (T : Tb) (hw : ∀ l : List Int, T.fs 3 [.lst (l.map D.int)] = .ok (.val (.int (if isNum l = true then vl 0 l else -1))))
    (hn : ∀ (l : List Int) (z : Str), Good l → z.cps.toList = l.map sgn → T.fs 4 [.str z] = .ok (.val (if isNum l = true then .int (vl 0 l) else .non)))
    (ht : ∀ l : List Int, Good l → ∃ z : Str, z.cps.toList = l.map sgn ∧ T.fs 5 [.lst (l.map D.int)] = .ok (.val (.str z)))
    (l : List Int) (g : Good l) (s0 s1 s2 s3 s4 s5 : Sl) :
    ∃ s4' s5', lpS T 3 bT (.lst (l.map D.int)) [s0, s1, s2, s3, s4, s5] = .ok (.nx [s0, s1, s2, .val (.lst (l.map D.int)), s4', s5']) := by
  obtain ⟨z, hz, hzt⟩ := ht l g
  have hnz := hn l z g hz
  have hwl := hw l
  cases hN : isNum l with
  | true =>
    rw [hN] at hnz hwl
    simp only [if_true] at hnz hwl
    have hA : l.all dig = true := by
      unfold isNum at hN
      simp only [Bool.and_eq_true] at hN
      exact hN.1.1.1
    have v0 : ¬ vl 0 l < 0 := by have := vl_nonneg l 0 (by decide) hA; omega
    exact ⟨_, _, by simp [lpS, bT, hzt, hnz, hwl, v0, isiD]; exact ⟨rfl, rfl⟩⟩
  | false =>
    rw [hN] at hnz hwl
    simp only [Bool.false_eq_true, if_false] at hnz hwl
    have e : cmpD .isnot .non .non = .ok false := rfl
    exact ⟨_, _, by simp [lpS, bT, hzt, hnz, hwl, e]; exact ⟨rfl, rfl⟩⟩
theorem law_true : ∀ ns : List Int, ns.length ≤ 63 → step cd fns 6 (tab cd fns 6) [.scr ns] = .ok (.val (.bl true)) := by
  intro ns _
  have t1 : tab cd fns 6 1 = fun ds => need (ds.length = 2) (runD ⟨cd, tab cd fns 1⟩ 8 b1 ds) := tab_lt (by decide)
  have t2 : tab cd fns 6 2 = fun ds => need (ds.length = 2) (runD ⟨cd, tab cd fns 2⟩ 2 b2 ds) := tab_lt (by decide)
  have t3 : tab cd fns 6 3 = fun ds => need (ds.length = 1) (runD ⟨cd, tab cd fns 3⟩ 3 b3 ds) := tab_lt (by decide)
  have t4 : tab cd fns 6 4 = fun ds => need (ds.length = 1) (runD ⟨cd, tab cd fns 4⟩ 2 b4 ds) := tab_lt (by decide)
  have t5 : tab cd fns 6 5 = fun ds => need (ds.length = 1) (runD ⟨cd, tab cd fns 5⟩ 3 b5 ds) := tab_lt (by decide)
  have t0 : tab cd fns 1 0 = fun ds => need (ds.length = 3) (runD ⟨cd, tab cd fns 0⟩ 9 b0 ds) := tab_lt (by decide)
  have hd : ∀ c sa bs, Bases bs → bs.length < 100000 → ∃ l, Drawn bs l ∧ (⟨cd, tab cd fns 1⟩ : Tb).fs 0 [.int c, .int sa, .lst (bs.map D.int)] = .ok (.own (l.map D.int)) := fun c sa bs hb hl => by
    obtain ⟨l, h1, h2⟩ := draw_spec ⟨cd, tab cd fns 0⟩ c sa bs hb hl
    refine ⟨l, h1, ?_⟩
    show tab cd fns 1 0 [.int c, .int sa, .lst (bs.map D.int)] = .ok (.own (l.map D.int))
    rw [t0]
    exact h2
  have hnum : ∀ c sa : Int, ∃ l : List Int, Good l ∧ tab cd fns 6 1 [.int c, .int sa] = .ok (.own (l.map D.int)) := fun c sa => by
    obtain ⟨l, h1, h3⟩ := numbers_spec _ hd c sa
    refine ⟨l, h1, ?_⟩
    rw [t1]; exact h3
  have hcell : ∀ k : Nat, tab cd fns 6 2 [.scr ns, .int k] = .ok (.val (.int (ns.getD k 0))) := fun k => by
    rw [t2]; exact cell_spec _ ns k
  have hworth : ∀ l : List Int, tab cd fns 6 3 [.lst (l.map D.int)] = .ok (.val (.int (if isNum l = true then vl 0 l else -1))) := fun l => by
    rw [t3]; exact worth_spec _ l
  have hread : ∀ (l : List Int) (z : Str), Good l → z.cps.toList = l.map sgn → tab cd fns 6 4 [.str z] = .ok (.val (if isNum l = true then .int (vl 0 l) else .non)) := fun l z g hz => by
    rw [t4]; exact read_spec _ rfl rfl l g z hz
  have htext : ∀ l : List Int, Good l → ∃ z : Str, z.cps.toList = l.map sgn ∧ tab cd fns 6 5 [.lst (l.map D.int)] = .ok (.val (.str z)) := fun l g => by
    obtain ⟨z, h3, h4⟩ := text_spec ⟨cd, tab cd fns 5⟩ l g.1 g.2
    refine ⟨z, h3, ?_⟩
    rw [t5]; exact h4
  have c0 := hcell 0
  have c1 := hcell 1
  obtain ⟨l1, a1, a3⟩ := hnum (ns.getD 0 0) 1
  obtain ⟨l2, b1, b3⟩ := hnum (ns.getD 1 0) 2
  have T := turn ⟨cd, tab cd fns 6⟩ hworth hread htext
  show need _ (runD ⟨cd, tab cd fns 6⟩ 6 b6 [.scr ns]) = _
  rw [need_pos (show [D.scr ns].length = f6.ps.length from rfl)]
  obtain ⟨p4, p5, e1⟩ := T l1 a1 (.val (.scr ns)) (.val (.lst (l1.map D.int))) (.val (.lst (l2.map D.int))) .no .no .no
  obtain ⟨q4, q5, e2⟩ := T l2 b1 (.val (.scr ns)) (.val (.lst (l1.map D.int))) (.val (.lst (l2.map D.int))) (.val (.lst (l1.map D.int))) p4 p5
  obtain ⟨r4, r5, e3⟩ := T l1 a1 (.val (.scr ns)) (.val (.lst (l1.map D.int))) (.val (.lst (l2.map D.int))) (.val (.lst (l2.map D.int))) q4 q5
  have lp : forRun (lpS ⟨cd, tab cd fns 6⟩ 3 bT) [.lst (l1.map D.int), .lst (l2.map D.int), .lst (l1.map D.int)] [.val (.scr ns), .val (.lst (l1.map D.int)), .val (.lst (l2.map D.int)), .no, .no, .no] = .ok (.nx [.val (.scr ns), .val (.lst (l1.map D.int)), .val (.lst (l2.map D.int)), .val (.lst (l1.map D.int)), r4, r5]) := by
    rw [forRun_nx e1, forRun_nx e2, forRun_nx e3]; rfl
  have eb : b6 = .cons (.set 1 (.call 1 (.cons (.call 2 (.cons (.var 0) (.cons (.int 0) .nil))) (.cons (.int 1) .nil)))) (.cons (.set 2 (.call 1 (.cons (.call 2 (.cons (.var 0) (.cons (.int 1) .nil))) (.cons (.int 2) .nil)))) (.frz 1 (.frz 2 (.cons (.fr 3 (.e (.lst (.cons (.var 1) (.cons (.var 2) (.cons (.var 1) .nil))))) bT) (.cons (.ret (.bl true)) .nil))))) := rfl
  rw [eb]
  have c0 : tab cd fns 6 2 [.scr ns, .int 0] = .ok (.val (.int (ns.getD 0 0))) := c0
  have c1 : tab cd fns 6 2 [.scr ns, .int 1] = .ok (.val (.int (ns.getD 1 0))) := c1
  simp only [List.getD_eq_getElem?_getD] at c0 c1 a3 b3
  simp [runD_def, c0, c1, a3, b3, frzS, sz, lp]
end Lw

open PySem PySem.W PySem.Calls PyProof.Rows
set_option maxRecDepth 100000 in
set_option maxHeartbeats 0 in
theorem PySem.Challenge.cw_neighbourkeys_k02_numbers_holds : PySem.Challenge.rw_neighbourkeys_k02_numbers.Holds := by
  w_on; o_law
  refine HandSHeadRun.head_any (r := OpenLaw.row PySem.Challenge.rw_neighbourkeys_k02_numbers) (q := view (OpenLaw.row PySem.Challenge.rw_neighbourkeys_k02_numbers).prog [10]) (H := Lw.hk) (ob := Lw.ob) (M := 2000) (loose := Lw.loose) (d := HandSHeadRun.topDef (OpenLaw.row PySem.Challenge.rw_neighbourkeys_k02_numbers).prog 10) (kwd := []) Lw.ob_eq
    (by kernel_rfl) (fun s => by kernel_rfl) Lw.run (by kernel_rfl) (by kernel_rfl) (by kernel_rfl) (by rfl) (by first | assumption | decide +kernel) (by decide +kernel) ⟨rfl, rfl, rfl, rfl, rfl, by decide +kernel⟩ ?hw ?hc
  case hw => w_witness2
  case hc =>
    refine L2.walk_ofE (l := PySem.Challenge.rw_neighbourkeys_k02_numbers) (n := 63) (k := 7) (x := "_law_script") (CX := L2.CX0) rfl (by decide) (by kernel_rfl) ⟨rfl, by decide, by decide⟩ ?F (fun _ _ _ _ z => z)
    intro w mg fa h Y G hmg0
    obtain ⟨K, KX, c⟩ := Y
    have hmg : mg ("law" : PySem.Str) = some (.ref fa) := by
      have e : (HandSHeadRun.topDef (OpenLaw.row PySem.Challenge.rw_neighbourkeys_k02_numbers).prog 10).name = ("law" : PySem.Str) := by kernel_rfl
      rw [← e]
      exact hmg0
    obtain ⟨a, fd, hA⟩ := Lw.hat KX G c 6 Lw.f6 rfl
    have ea : a = fa := by
      have := hA.2.1.symm.trans hmg
      cases this
      rfl
    subst ea
    refine ⟨K, fd, NK.spF K 1 (NK.step Lw.cd Lw.fns 6 (NK.tab Lw.cd Lw.fns 6)), KX, ?hb, fun H a ns hl _ hS => NK.law_sp Lw.law_true H a ns hl hS, fun base _ _ => NK.prog_ok (Lw.hglo KX G c) (Lw.hblt KX G c) (Lw.hat KX G c) Lw.chk 6 Lw.f6 rfl a fd hA⟩
    intro s u
    have b := L2.FunD.bindsA (ps := ["_law_script"]) hA.1 fun _ _ _ _ _ _ us hl => match us, hl with | [_], _ => rfl
    exact b s [u] rfl

