import PyProof.Rows.All
import Wide.All
import OpenK.AllK
import Wide.FinOn
import HandS.ForMost
import HandS.Wide
import HandS.Style
import HandS.Flow
import HandS.Star
import HandS.IsInst
import HandS.Property
import HandS.OwnEq
import HandS.DeepEq
import HandS.SortOrd
import HandS.TupLe
import HandS.More
import HandS.Exc
import HandS.TryMany
import KE.LtSeq
import PyProof.NeKinds
import HandS.Defaults
import HandS.CallSlots
import HandS.ExcOwn
import PyProof.LongRange
import PyProof.ListRange
import PyProof.Conv_bool
import HandS.Conv
import HandS.Small
import HandS.RaiseMore
import HandS.NoneIn
import HandS.Head0
import HandS.Head1
import HandS.Head2
import HandS.HeadEnd
import HandS.HeadHook1
import HandS.HeadHook2
import PySem.Challenge.RW_neighbourkeys_k03_street_keeps_its_names
set_option Elab.async false
set_option linter.all false
set_option maxRecDepth 100000
set_option maxHeartbeats 2000000
/-! The core language: settled trees, cells, an interpreter. -/
namespace NV
open PySem L2

/-- settled trees -/
inductive D where
  | non
  | bl (b : Bool)
  | int (i : Int)
  | str (s : Str)
  | tup (l : List D)
  | lst (l : List D)
  | dct (ks vs : List D)
  | ins (c : Nat) (l : List D)
  | scr (l : List Int)
  deriving Inhabited

/-- a value: a settled tree, or the cell n of the frame's store -/
inductive W where
  | v (d : D)
  | r (n : Nat)
  deriving Inhabited

/-- what a cell holds -/
inductive Cell where
  | dead
  | lst (l : List W)
  | tup (l : List W)
  | dct (ks : List D) (vs : List W)
  | ins (c : Nat) (l : List W)
  deriving Inhabited
abbrev Sto := List Cell

/-- an error: its class, its fields -/
structure Er where
  c : Nat
  fs : List D

inductive Out (α : Type) where
  | ok (a : α) (S : Sto)
  | err (e : Er) (S : Sto)
  | bad

def Out.bind {α β : Type} (o : Out α) (f : α → Sto → Out β) : Out β :=
  match o with
  | .ok a S => f a S
  | .err e S => .err e S
  | .bad => .bad
/-- a condition that must hold, else stuck -/
def need {α : Type} (c : Prop) [Decidable c] (r : Out α) : Out α := if c then r else .bad
/-- an option that must be there -/
def opt {α β : Type} (o : Option α) (f : α → Out β) : Out β := match o with
  | some a => f a
  | none => .bad
@[simp] theorem Out.bind_ok {α β : Type} (a : α) (S : Sto) (f : α → Sto → Out β) : (Out.ok a S).bind f = f a S := id rfl
@[simp] theorem Out.bind_err {α β : Type} (e : Er) (S : Sto) (f : α → Sto → Out β) : (Out.err e S).bind f = .err e S := id rfl
@[simp] theorem Out.bind_bad {α β : Type} (f : α → Sto → Out β) : Out.bad.bind f = .bad := id rfl
@[simp] theorem need_T {α : Type} {i : Decidable True} {r : Out α} : @need α True i r = r := if_pos trivial
theorem need_pos {α : Type} {c : Prop} [Decidable c] {r : Out α} (h : c) : need c r = r := if_pos h
@[simp] theorem opt_some {α β : Type} (a : α) (f : α → Out β) : opt (some a) f = f a := id rfl
theorem Out.bind_ok' {α β : Type} {o : Out α} {f : α → Sto → Out β} {b : β} {S' : Sto} (h : o.bind f = .ok b S') : ∃ a S, o = .ok a S ∧ f a S = .ok b S' := by
  cases o with
  | ok a S => exact ⟨a, S, rfl, h⟩
  | err e S => cases h
  | bad => cases h
theorem Out.bind_err' {α β : Type} {o : Out α} {f : α → Sto → Out β} {e : Er} {S' : Sto} (h : o.bind f = .err e S') : o = .err e S' ∨ ∃ a S, o = .ok a S ∧ f a S = .err e S' := by
  cases o with
  | ok a S => exact .inr ⟨a, S, rfl, h⟩
  | err e S => cases h; exact .inl rfl
  | bad => cases h
theorem need_ok {α : Type} {c : Prop} [Decidable c] {r : Out α} {a : α} {S : Sto} (h : need c r = .ok a S) : c ∧ r = .ok a S := by
  unfold need at h
  split at h
  · exact ⟨by assumption, h⟩
  · cases h
theorem need_err {α : Type} {c : Prop} [Decidable c] {r : Out α} {e : Er} {S : Sto} (h : need c r = .err e S) : c ∧ r = .err e S := by
  unfold need at h
  split at h
  · exact ⟨by assumption, h⟩
  · cases h
theorem opt_ok {α β : Type} {o : Option α} {f : α → Out β} {b : β} {S : Sto} (h : opt o f = .ok b S) : ∃ a, o = some a ∧ f a = .ok b S := by
  cases o with
  | some a => exact ⟨a, rfl, h⟩
  | none => cases h
theorem opt_err {α β : Type} {o : Option α} {f : α → Out β} {e : Er} {S : Sto} (h : opt o f = .err e S) : ∃ a, o = some a ∧ f a = .err e S := by
  cases o with
  | some a => exact ⟨a, rfl, h⟩
  | none => cases h

/-! ### the classes -/
structure CInfo where
  name : Str
  flds : List Str := []
  mths : List (Str × Nat) := []
  prps : List (Str × Nat) := []
  cons : List (Str × D) := []
  sups : List Nat := []
  deriving Inhabited

inductive BO where
  | add | sub | mul | fdiv | mod | pow | and | or | xor
  deriving DecidableEq
inductive CO where
  | eq | ne | lt | le | gt | ge | isin | notin | is | isnot
  deriving DecidableEq
/-- builtins of one argument -/
inductive Bi where
  | len | int | all | any | list | tuple | str | bool | sorted | sum | min | max | iter
  deriving DecidableEq
/-- builtins of two arguments -/
inductive Bj where
  | min | max
  deriving DecidableEq
/-- built-in classes that isinstance is asked for -/
inductive Ty where
  | int | str | bool | list | tuple
  deriving DecidableEq
/-- methods of built-in types, one argument -/
inductive Mt where
  | join | split | starts
  deriving DecidableEq

/-- a default value -/
inductive Df where
  | non | unit | int (i : Int) | bl (b : Bool)
  deriving DecidableEq
def Df.d : Df → D
  | .non => .non
  | .unit => .tup []
  | .int i => .int i
  | .bl b => .bl b
def dfs (ds : List Df) : List W := ds.map fun x => W.v x.d
@[simp] theorem dfs_nil : dfs [] = [] := id rfl
@[simp] theorem dfs_cons (x : Df) (l : List Df) : dfs (x :: l) = .v x.d :: dfs l := id rfl
/-- a target: one name, several -/
inductive Tg where
  | one (i : Nat)
  | tup (is : List Nat)
  deriving DecidableEq
def Tg.ns : Tg → List Nat
  | .one i => [i]
  | .tup is => is
mutual
inductive CE where
  | var (i : Nat)
  | int (i : Int) | str (s : Str) | bl (b : Bool) | non
  | glo (j : Nat)
  | bin (op : BO) (a b : CE)
  | neg (a : CE)
  | notv (a : CE)
  | andv (a b : CE)
  | orv (a b : CE)
  | cmp (op : CO) (a b : CE)
  | chain (o1 o2 : CO) (a b c : CE)
  | ifx (t : CT) (a b : CE)
  | tup (l : CL)
  | lst (l : CL)
  | idx (a b : CE)
  | sli (a : CE) (lo hi : CP)
  | frz (a : CE)
  | call (f : Nat) (l : CL) (ds : List Df)
  | calL (f : Nat) (l : CL) (ds : List Df)
  | mk (c f : Nat) (l : CL) (ds : List Df)
  | scal (f : Nat) (l : CL) (ds : List Df)
  | sup (f : Nat) (l : CL)
  | fld (o : CE) (a : Str)
  | prp (o : CE) (a : Str)
  | con (o : CE) (a : Str)
  | ccn (c : Nat) (a : Str)
  | mth (o : CE) (m : Str) (l : CL) (ds : List Df)
  | mtL (o : CE) (m : Str) (l : CL) (ds : List Df)
  | isc (a : CE) (c : Nat)
  | isi (a : CE) (t : Ty)
  | bi (b : Bi) (a : CE)
  | bj (b : Bj) (a b : CE)
  | lrg (a b : CE)
  | mt1 (m : Mt) (o a : CE)
  | lc (elt : CE) (i : Nat) (s : CI)
  | lcc (elt : CE) (i : Nat) (s : CI) (t : CT)
  | lcu (elt : CE) (is : List Nat) (s : CI)
  | lccu (elt : CE) (is : List Nat) (s : CI) (t : CT)
  | lc2 (elt : CE) (g1 : Tg) (s1 : CI) (g2 : Tg) (s2 : CI)
  | lc2c (elt : CE) (g1 : Tg) (s1 : CI) (g2 : Tg) (s2 : CI) (t : CT)
inductive CL where
  | nil
  | cons (e : CE) (l : CL)
  | star (e : CE) (l : CL)
/-- tests -/
inductive CT where
  | e (c : CE)
  | cmp (op : CO) (a b : CE)
  | chain (o1 o2 : CO) (a b c : CE)
  | and (a b : CT)
  | or (a b : CT)
  | not (a : CT)
/-- parts of a slice -/
inductive CP where
  | no
  | so (e : CE)
/-- what a for walks -/
inductive CI where
  | e (c : CE)
  | s (c : CE)
  | r1 (a : CE)
  | r2 (a b : CE)
  | en (c : CE)
end

/-- an item of a handler's list -/
inductive XI where
  | str (s : Str)
  | fld (f : Str)
  | isc (c : Nat)
  | isv
  | and (a b : XI)
  | or (a b : XI)
/-- what a handler does: x = [..], x = an item -/
inductive XH where
  | lst (i : Nat) (l : List XI)
  | one (i : Nat) (x : XI)
/-- a handler: its class, the slot of its name, its suite -/
structure Hd where
  c : Nat
  e : Nat
  h : XH

mutual
inductive CS where
  | set (i : Nat) (e : CE)
  | unp (is : List Nat) (e : CE)
  | sfld (i : Nat) (a : Str) (e : CE)
  | sidx (o ix e : CE)
  | app (o e : CE)
  | ins (o ix e : CE)
  | del (o : CE) (ix : CP)
  | setp (i : Nat) (o : CE) (ix : CP)
  | clr (o : CE)
  | rvs (o : CE)
  | ex (e : CE)
  | ret (e : CE)
  | ret0
  | ite (t : CT) (a b : CB)
  | fr (i : Nat) (s : CI) (b : CB)
  | fru (is : List Nat) (s : CI) (b : CB)
  | brk | cnt | pas
  | bot
  | rai (c f : Nat) (l : CL)
  | try_ (b : CB) (hs : List Hd)
inductive CB where
  | nil
  | cons (s : CS) (b : CB)
  | frz (i : Nat) (b : CB)
end

/-! ### operations on trees -/
def smallI (i : Int) : Bool := decide (-(2 ^ 64) < i) && decide (i < 2 ^ 64)
def flatD : D → Bool
  | .non => true
  | .bl _ => true
  | .int _ => true
  | .str _ => true
  | _ => false
/-- the flat value of a tree -/
def vOf : D → V
  | .non => .non
  | .bl b => .bl b
  | .int i => .int i
  | .str s => .str s
  | _ => .non
/-- == of flat values -/
def eqF : D → D → Bool
  | .non, .non => true
  | .bl a, .bl b => a == b
  | .bl a, .int b => (if a then 1 else 0) == b
  | .int a, .bl b => a == (if b then 1 else 0)
  | .int a, .int b => a == b
  | .str a, .str b => a == b
  | _, _ => false
mutual
/-- == of trees -/
def eqD : D → D → Bool
  | .tup l, y => match y with
    | .tup m => eqDs l m
    | _ => false
  | .lst l, y => match y with
    | .lst m => eqDs l m
    | _ => false
  | x, y => eqF x y
def eqDs : List D → List D → Bool
  | [], m => m.isEmpty
  | x :: l, m => match m with
    | [] => false
    | y :: m => eqD x y && eqDs l m
end
/-- no instance, no script in it, at most n deep -/
def datN : Nat → D → Bool
  | _, .non => true
  | _, .bl _ => true
  | _, .int _ => true
  | _, .str _ => true
  | n + 1, .tup l => l.all (datN n)
  | n + 1, .lst l => l.all (datN n)
  | _, _ => false
def datD (x : D) : Bool := datN 6 x
def datDs (l : List D) : Bool := l.all (datN 5)
mutual
/-- x < y -/
def ltD : D → D → Bool
  | .int a, y => match y with
    | .int b => decide (a < b)
    | _ => false
  | .str a, y => match y with
    | .str b => decide (a.cps.toList < b.cps.toList)
    | _ => false
  | .tup l, y => match y with
    | .tup m => ltDs l m
    | _ => false
  | .lst l, y => match y with
    | .lst m => ltDs l m
    | _ => false
  | _, _ => false
def ltDs : List D → List D → Bool
  | [], m => !m.isEmpty
  | x :: l, m => match m with
    | [] => false
    | y :: m => if eqD x y then ltDs l m else ltD x y
end
/-- < is defined -/
def ltOk : Nat → D → D → Bool
  | _, .int _, .int _ => true
  | _, .str _, .str _ => true
  | n + 1, .tup l, .tup m => (l.zip m).all fun p => eqD p.1 p.2 || ltOk n p.1 p.2
  | n + 1, .lst l, .lst m => (l.zip m).all fun p => eqD p.1 p.2 || ltOk n p.1 p.2
  | _, _, _ => false
def inD (x : D) (l : List D) : Bool := l.any fun y => eqD y x
def isNon : D → Bool
  | .non => true
  | _ => false
def isBl (b : Bool) : D → Bool
  | .bl c => b == c
  | _ => false
def cmpD : CO → D → D → Option Bool
  | .eq, x, y => if datD x = true ∧ datD y = true then some (eqD x y) else none
  | .ne, x, y => if datD x = true ∧ datD y = true then some (!eqD x y) else none
  | .lt, .int i, .int j => some (decide (i < j))
  | .lt, x, y => if datD x = true ∧ datD y = true ∧ ltOk 6 x y = true then some (ltD x y) else none
  | .le, .int i, .int j => some (decide (i ≤ j))
  | .gt, .int i, .int j => some (decide (j < i))
  | .ge, .int i, .int j => some (decide (j ≤ i))
  | .isin, x, .lst l => if datD x = true ∧ datDs l = true then some (inD x l) else none
  | .isin, x, .tup l => if datD x = true ∧ datDs l = true then some (inD x l) else none
  | .notin, x, .lst l => if datD x = true ∧ datDs l = true then some (!inD x l) else none
  | .notin, x, .tup l => if datD x = true ∧ datDs l = true then some (!inD x l) else none
  | .isin, .str c, .str z => if c.cps.size = 1 then some (decide (c.cps.getD 0 0 ∈ z.cps.toList)) else none
  | .notin, .str c, .str z => if c.cps.size = 1 then some (!decide (c.cps.getD 0 0 ∈ z.cps.toList)) else none
  | .is, x, .non => some (isNon x)
  | .isnot, x, .non => some (!isNon x)
  | .is, x, .bl b => some (isBl b x)
  | .isnot, x, .bl b => some (!isBl b x)
  | _, _, _ => none
def truD : D → Option Bool
  | .non => some false
  | .bl b => some b
  | .int i => some (i != 0)
  | .str s => if s.length ≤ sizeLine then some (s.length != 0) else none
  | .lst l => some (!l.isEmpty)
  | .tup l => some (!l.isEmpty)
  | _ => none
def chr1 (c : Nat) : Str := ⟨#[c]⟩
def boolsOf : List D → Option (List Bool)
  | [] => some []
  | .bl b :: r => (boolsOf r).map (b :: ·)
  | _ :: _ => none
def strsOf : List D → Option (List Str)
  | [] => some []
  | .str b :: r => (strsOf r).map (b :: ·)
  | _ :: _ => none
def intsOf : List D → Option (List Int)
  | [] => some []
  | .int b :: r => (intsOf r).map (b :: ·)
  | _ :: _ => none
def rangeD (lo : Int) (n : Nat) : List D := (List.range n).map fun (i : Nat) => .int (lo + (i : Int))
/-- insertion sort, stable -/
def insD (x : D) : List D → List D
  | [] => [x]
  | y :: l => if ltD x y then x :: y :: l else y :: insD x l
def sortD (l : List D) : List D := l.foldl (fun acc x => insD x acc) []
/-- the least, the greatest: the first one of them -/
def minD : D → List D → D
  | x, [] => x
  | x, y :: l => minD (if ltD y x then y else x) l
def maxD : D → List D → D
  | x, [] => x
  | x, y :: l => maxD (if ltD x y then y else x) l

def sortS (ss : List Str) : List Str := ss.mergeSort fun a b => decide (a.cps.toList ≤ b.cps.toList)
theorem sortS_perm (ss : List Str) : (sortS ss).Perm ss := List.mergeSort_perm _ _
theorem sortS_pw (ss : List Str) : (sortS ss).Pairwise fun a b => a.cps.toList ≤ b.cps.toList := by
  have h := List.pairwise_mergeSort (le := fun a b : Str => decide (a.cps.toList ≤ b.cps.toList)) (fun a b c h1 h2 => by
    simp only [decide_eq_true_eq] at h1 h2 ⊢
    exact List.le_trans h1 h2) (fun a b => by
    simp only [Bool.or_eq_true, decide_eq_true_eq]
    exact List.le_total _ _) ss
  exact h.imp fun h => by simpa using h
theorem str_anti {a b : Str} (h1 : a.cps.toList ≤ b.cps.toList) (h2 : b.cps.toList ≤ a.cps.toList) : a = b := by
  have h := List.le_antisymm h1 h2
  cases a; cases b
  simp only at h
  congr 1
  exact Array.toList_inj.mp h
theorem perm_sorted_eq {α : Type} {le : α → α → Prop} (an : ∀ a b, le a b → le b a → a = b) : ∀ {l m : List α}, l.Perm m → l.Pairwise le → m.Pairwise le → l = m
  | [], m, p, _, _ => (List.nil_perm.mp p).symm
  | a :: l, [], p, _, _ => absurd p.length_eq (by simp)
  | a :: l, b :: m, p, h1, h2 => by
    have hab : a = b := by
      have ha : a ∈ b :: m := p.mem_iff.mp List.mem_cons_self
      have hb : b ∈ a :: l := p.mem_iff.mpr List.mem_cons_self
      rcases List.mem_cons.mp ha with e | ha
      · exact e
      · rcases List.mem_cons.mp hb with e | hb
        · exact e.symm
        · exact an a b ((List.pairwise_cons.mp h1).1 b hb) ((List.pairwise_cons.mp h2).1 a ha)
    subst hab
    rw [perm_sorted_eq an (List.Perm.cons_inv p) (List.pairwise_cons.mp h1).2 (List.pairwise_cons.mp h2).2]
theorem ltC : ∀ a b : List Nat, PySem.Spec.ltCps a b = decide (a < b)
  | [], [] => rfl
  | [], _ :: _ => by simp [PySem.Spec.ltCps]
  | _ :: _, [] => by simp [PySem.Spec.ltCps]
  | a :: r, b :: t => by
    unfold PySem.Spec.ltCps
    rw [ltC r t]
    simp only [List.cons_lt_cons_iff]
    by_cases h : a < b
    · simp [h]
    · by_cases e : a = b
      · subst e; simp
      · simp [h, e]
open PyProof.Rows in
theorem sortedS_pw : ∀ {ss : List Str}, sortedS ss = true → ss.Pairwise fun a b => a.cps.toList ≤ b.cps.toList := by
  have lt : ∀ a b : List Nat, PySem.Spec.ltCps a b = false → b ≤ a := by
    intro a b h
    rw [ltC] at h
    exact List.not_lt.mp (of_decide_eq_false h)
  have step : ∀ (r : List Str) (p : Str), risingS p r = true → (p :: r).Pairwise fun a b => a.cps.toList ≤ b.cps.toList := by
    intro r
    induction r with
    | nil => intro p _; exact List.pairwise_singleton _ _
    | cons x r ih =>
      intro p h
      unfold risingS at h
      simp only [Bool.and_eq_true, Bool.not_eq_true'] at h
      have hp := ih x h.2
      refine List.pairwise_cons.mpr ⟨fun y hy => ?_, hp⟩
      have h1 := lt _ _ h.1
      rcases List.mem_cons.mp hy with rfl | hy
      · exact h1
      · exact List.le_trans h1 ((List.pairwise_cons.mp hp).1 y hy)
  intro ss h
  cases ss with
  | nil => exact List.Pairwise.nil
  | cons x r => exact step r x h
open PyProof.Rows in
theorem sortS_uniq {ys ss : List Str} (p : ys.Perm ss) (h : sortedS ys = true) : ys = sortS ss :=
  perm_sorted_eq (fun a b => str_anti) (p.trans (sortS_perm ss).symm) (sortedS_pw h) (sortS_pw ss)
/-- shapes: a text, an int, a pair -/
inductive Shp where
  | s
  | i
  | p (a b : Shp)
  deriving DecidableEq
def hasShp : Shp → D → Bool
  | .s, .str _ => true
  | .i, .int _ => true
  | .p a b, .tup [x, y] => hasShp a x && hasShp b y
  | _, _ => false
def shpOf : D → Option Shp
  | .str _ => some .s
  | .int _ => some .i
  | .tup [x, y] => match shpOf x, shpOf y with
    | some a, some b => some (.p a b)
    | _, _ => none
  | _ => none
def shpDep : Shp → Nat
  | .s => 0
  | .i => 0
  | .p a b => max (shpDep a) (shpDep b) + 1
/-- pairs, all of one shape -/
def pairsOk : List D → Bool
  | [] => true
  | d :: l => match shpOf d with
    | some (.p a b) => decide (shpDep (.p a b) ≤ 5) && (d :: l).all (hasShp (.p a b))
    | _ => false
def sortT (l : List D) : List D := l.mergeSort fun a b => !ltD b a
/-! ### cells -/
def unV : List W → Option (List D)
  | [] => some []
  | .v d :: l => (unV l).map (d :: ·)
  | .r _ :: _ => none
/-- a cell without references, as a tree -/
def Cell.tree : Cell → Option D
  | .dead => none
  | .lst l => (unV l).map D.lst
  | .tup l => (unV l).map D.tup
  | .dct ks l => (unV l).map (D.dct ks)
  | .ins c l => (unV l).map (D.ins c)
mutual
/-- the tree of a value -/
def rd (S : Sto) : Nat → W → Option D
  | _, .v d => some d
  | 0, .r _ => none
  | k + 1, .r n => match S[n]? with
    | some (.lst l) => (rds S k l).map D.lst
    | some (.tup l) => (rds S k l).map D.tup
    | some (.dct ks l) => (rds S k l).map (D.dct ks)
    | some (.ins c l) => (rds S k l).map (D.ins c)
    | _ => none
def rds (S : Sto) : Nat → List W → Option (List D)
  | _, [] => some []
  | k, w :: l => match rd S k w with
    | some d => (rds S k l).map (d :: ·)
    | none => none
end
mutual
/-- the tree of a value, through cells from b on -/
def rdf (b : Nat) (S : Sto) : Nat → W → Option D
  | _, .v d => some d
  | 0, .r _ => none
  | k + 1, .r n => if n < b then none else match S[n]? with
    | some (.lst l) => (rdfs b S k l).map D.lst
    | some (.tup l) => (rdfs b S k l).map D.tup
    | some (.dct ks l) => (rdfs b S k l).map (D.dct ks)
    | some (.ins c l) => (rdfs b S k l).map (D.ins c)
    | _ => none
def rdfs (b : Nat) (S : Sto) : Nat → List W → Option (List D)
  | _, [] => some []
  | k, w :: l => match rdf b S k w with
    | some d => (rdfs b S k l).map (d :: ·)
    | none => none
end
def look (S : Sto) (w : W) : Option D := rd S 4 w
/-- the items of a list or a tuple -/
def seqOf (S : Sto) : W → Option (List W)
  | .v (.lst l) => some (l.map W.v)
  | .v (.tup l) => some (l.map W.v)
  | .r n => match S[n]? with
    | some (.lst l) => some l
    | some (.tup l) => some l
    | _ => none
  | _ => none
/-- an instance: its class, its fields -/
def objOf (S : Sto) : W → Option (Nat × List W)
  | .v (.ins c l) => some (c, l.map W.v)
  | .r n => match S[n]? with
    | some (.ins c l) => some (c, l)
    | _ => none
  | _ => none
def refB (k : Nat) : W → Bool
  | .v _ => true
  | .r n => decide (n < k)
/-- references below k only -/
def Cell.below (k : Nat) : Cell → Bool
  | .dead => true
  | .lst l => l.all (refB k)
  | .tup l => l.all (refB k)
  | .dct _ l => l.all (refB k)
  | .ins _ l => l.all (refB k)
/-- the first k cells, closed -/
def cut (k : Nat) (S : Sto) : Option Sto := if k ≤ S.length ∧ (S.take k).all (Cell.below k) = true then some (S.take k) else none
/-! may be kept when lent things go back: no list, dict or instance in it -/
mutual
def tupD : D → Bool
  | .non => true
  | .bl _ => true
  | .int _ => true
  | .str _ => true
  | .tup l => tupDs l
  | _ => false
def tupDs : List D → Bool
  | [] => true
  | d :: l => tupD d && tupDs l
end
mutual
/-- lent: lists, dicts, instances all the way (no tuple that holds a cell) -/
def lend (S : Sto) : Nat → W → Option D
  | _, .v d => some d
  | 0, .r _ => none
  | k + 1, .r n => match S[n]? with
    | some (.lst l) => (lends S k l).map D.lst
    | some (.dct ks l) => (lends S k l).map (D.dct ks)
    | some (.ins c l) => (lends S k l).map (D.ins c)
    | _ => none
def lends (S : Sto) : Nat → List W → Option (List D)
  | _, [] => some []
  | k, w :: l => match lend S k w with
    | some d => (lends S k l).map (d :: ·)
    | none => none
end
def shW (k : Nat) : W → W
  | .v d => .v d
  | .r n => .r (n + k)
def shC (k : Nat) : Cell → Cell
  | .dead => .dead
  | .lst l => .lst (l.map (shW k))
  | .tup l => .tup (l.map (shW k))
  | .dct ks l => .dct ks (l.map (shW k))
  | .ins c l => .ins c (l.map (shW k))

/-- the tables: the defs, the module's constants, the classes -/
structure Tb where
  fs : Nat → Sto → List W → Out W
  cs : Nat → Option D
  ci : Nat → CInfo

/-! ### calls -/
/-- a new cell -/
def alc (c : Cell) (S : Sto) : Out W := .ok (.r S.length) (S ++ [c])
/-- what a def without references gave, into the store -/
def emb (S : Sto) (w : W) (S' : Sto) : Out W := match w with
  | .v d => .ok (.v d) S
  | .r n => match S'[n]? with
    | some c => if c.tree.isSome = true then alc c S else .ok (.r (n + S.length)) (S ++ S'.map (shC S.length))
    | none => .bad
def embO (S : Sto) : Out W → Out W
  | .ok w S' => emb S w S'
  | .err e _ => .err e S
  | .bad => .bad
/-- what a def over this store gave -/
def stoK (k : Nat) (w : W) (S' S1 : Sto) : Out W := match w with
  | .v d => .ok (.v d) S1
  | .r n => if n < k then .ok (.r n) S1 else match S'[n]? with
    | some c => if c.tree.isSome = true then .ok (.r k) (S1 ++ [c]) else .bad
    | none => .bad
def errK {α : Type} (e : Er) (S1 : Sto) : Out α := .err e S1
def stoO (k : Nat) : Out W → Out W
  | .ok w S' => opt (cut k S') (stoK k w S')
  | .err e S' => opt (cut k S') (errK e)
  | .bad => .bad
def callW (T : Tb) (f : Nat) (ws : List W) (S : Sto) : Out W := match unV ws with
  | some _ => embO S (T.fs f [] ws)
  | none => stoO S.length (T.fs f S ws)
/-- what a def gave to whom things were lent -/
def lendO (S : Sto) : Out W → Out W
  | .ok (.v d) _ => need (tupD d = true) (.ok (.v d) S)
  | .ok (.r n) S' => match S'[n]? with
    | some (.lst l) => match unV l with
      | some ds => need (tupDs ds = true) (alc (.lst l) S)
      | none => .bad
    | _ => .bad
  | .err e _ => need (tupDs e.fs = true) (.err e S)
  | .bad => .bad
def lendK (T : Tb) (f : Nat) (S : Sto) (ds : List D) : Out W := lendO S (T.fs f [] (ds.map W.v))
def callL (T : Tb) (f : Nat) (ws : List W) (S : Sto) : Out W := opt (lends S 4 ws) (lendK T f S)
/-- an instance is made: the def fills the cell behind the store -/
def mkO (k : Nat) : Out W → Out W
  | .ok (.v .non) S' => opt (cut (k + 1) S') (fun S1 => .ok (.r k) S1)
  | .ok _ _ => .bad
  | .err e S' => opt (cut k S') (errK e)
  | .bad => .bad
def mk0 (S : Sto) : Out W → Out W
  | .ok (.v .non) S' => emb S (.r 0) S'
  | .ok _ _ => .bad
  | .err e _ => .err e S
  | .bad => .bad
def makeW (T : Tb) (c f : Nat) (ws : List W) (S : Sto) : Out W := match unV ws with
  | some _ => mk0 S (T.fs f [.ins c []] (.r 0 :: ws))
  | none => mkO S.length (T.fs f (S ++ [.ins c []]) (.r S.length :: ws))
/-- the k-th name of a list -/
def ixOf (x : Str) : List Str → Option Nat
  | [] => none
  | y :: l => if y = x then some 0 else (ixOf x l).map (· + 1)
def asc {α : Type} (x : Str) : List (Str × α) → Option α
  | [] => none
  | (y, a) :: l => if y = x then some a else asc x l
def fldK (T : Tb) (a : Str) (p : Nat × List W) : Option W := match ixOf a (T.ci p.1).flds with
  | some i => p.2[i]?
  | none => none
def okW (S : Sto) (w : W) : Out W := .ok w S
def okD (S : Sto) (d : D) : Out W := .ok (.v d) S
def okB (S : Sto) (b : Bool) : Out W := .ok (.v (.bl b)) S
def fldW (T : Tb) (a : Str) (w : W) (S : Sto) : Out W := opt (objOf S w) fun p => opt (fldK T a p) (okW S)
def noErr : Out W → Out W
  | .ok w S => .ok w S
  | _ => .bad
@[simp] theorem noErr_ok (w : W) (S : Sto) : noErr (.ok w S) = .ok w S := id rfl
def prpW (T : Tb) (a : Str) (w : W) (S : Sto) : Out W := opt (objOf S w) fun p => opt (asc a (T.ci p.1).prps) fun f => noErr (callW T f [w] S)
def conW (T : Tb) (a : Str) (w : W) (S : Sto) : Out W := opt (objOf S w) fun p => opt (asc a (T.ci p.1).cons) (okD S)

/-! ### operators -/
def binD (op : BO) (x y : D) : Option D := match op, x, y with
  | .add, .int i, .int j => some (.int (i + j))
  | .add, .str s, .str t => if s.length + t.length ≤ sizeLine then some (.str (s ++ t)) else none
  | .sub, .int i, .int j => some (.int (i - j))
  | .mul, .int i, .int j => if (smallI i || smallI j) = true then some (.int (i * j)) else none
  | .fdiv, .int i, .int j => if 0 < j ∧ j.natAbs.log2 < 9000 then some (.int (i / j)) else none
  | .mod, .int i, .int j => if 0 < j then some (.int (i % j)) else none
  | .pow, .int i, .int j => if 0 ≤ j ∧ j ≤ 1000000 ∧ i.natAbs < 2 ^ 64 then some (.int (i ^ j.toNat)) else none
  | _, _, _ => none
def listOf (S : Sto) : W → Option (List W)
  | .v (.lst l) => some (l.map W.v)
  | .r n => match S[n]? with
    | some (.lst l) => some l
    | _ => none
  | _ => none
def dnOf : BO → Str
  | .add => "__add__" | .sub => "__sub__" | .mul => "__mul__" | .fdiv => "__floordiv__" | .mod => "__mod__" | .pow => "__pow__" | .and => "__and__" | .or => "__or__" | .xor => "__xor__"
def intW : W → Option Int
  | .v (.int i) => some i
  | _ => none
def binL (op : BO) (l : List W) (y : W) (S : Sto) : Out W := match op with
  | .add => opt (listOf S y) fun m => need (l.length + m.length ≤ sizeLine) (alc (.lst (l ++ m)) S)
  | .mul => opt (intW y) fun k => need (-(2 ^ 63) ≤ k ∧ k < 2 ^ 63 ∧ l.length * k.toNat ≤ sizeLine) (alc (.lst (List.replicate k.toNat l).flatten) S)
  | _ => .bad
def binW (T : Tb) (op : BO) (x y : W) (S : Sto) : Out W := match objOf S x with
  | some p => opt (objOf S y) fun q => need (p.1 = q.1) (opt (asc (dnOf op) (T.ci p.1).mths) fun f => callW T f [x, y] S)
  | none => match listOf S x with
    | some l => binL op l y S
    | none => match x, y with
      | .v a, .v b => opt (binD op a b) (okD S)
      | _, _ => .bad
/-- a def's bool -/
def boolO : W → Sto → Out W
  | .v (.bl b), S => okB S b
  | _, _ => .bad
def notO : W → Sto → Out W
  | .v (.bl b), S => okB S (!b)
  | _, _ => .bad
/-- a comparison, its value a bool -/
def cmpW (T : Tb) (op : CO) (x y : W) (S : Sto) : Out W := match op with
  | .eq => match objOf S x with
    | some p => opt (objOf S y) fun q => need (p.1 = q.1) (opt (asc "__eq__" (T.ci p.1).mths) fun f => (callW T f [x, y] S).bind boolO)
    | none => opt (look S x) fun a => opt (look S y) fun b => opt (cmpD .eq a b) (okB S)
  | .ne => opt (look S x) fun a => opt (look S y) fun b => opt (cmpD .ne a b) (okB S)
  | .lt => match objOf S x with
    | some p => opt (objOf S y) fun q => need (p.1 = q.1) (opt (asc "__lt__" (T.ci p.1).mths) fun f => (callW T f [x, y] S).bind boolO)
    | none => opt (look S x) fun a => opt (look S y) fun b => opt (cmpD .lt a b) (okB S)
  | .isin => match objOf S y with
    | some p => opt (asc "__contains__" (T.ci p.1).mths) fun f => (callW T f [y, x] S).bind boolO
    | none => opt (look S x) fun a => opt (look S y) fun b => opt (cmpD .isin a b) (okB S)
  | .notin => match objOf S y with
    | some p => opt (asc "__contains__" (T.ci p.1).mths) fun f => (callW T f [y, x] S).bind notO
    | none => opt (look S x) fun a => opt (look S y) fun b => opt (cmpD .notin a b) (okB S)
  | op => opt (look S x) fun a => opt (look S y) fun b => opt (cmpD op a b) (okB S)
def truO : W → Sto → Out Bool
  | .v (.bl b), S => .ok b S
  | _, _ => .bad
def okT (S : Sto) (b : Bool) : Out Bool := .ok b S
def truW (T : Tb) (x : W) (S : Sto) : Out Bool := match objOf S x with
  | some p => opt (asc "__bool__" (T.ci p.1).mths) fun f => (callW T f [x] S).bind truO
  | none => opt (look S x) fun a => opt (truD a) (okT S)
def idxW (x y : W) (S : Sto) : Out W := match x with
  | .v (.str z) => opt (intW y) fun i => need (z.length ≤ sizeLine) (opt (atI z.cps.toList i) fun c => okD S (.str (chr1 c)))
  | .v (.scr l) => opt (intW y) fun i => opt (atI l i) fun c => okD S (.int c)
  | x => opt (seqOf S x) fun l => opt (intW y) fun i => opt (atI l i) (okW S)
def cutW {α : Type} (l : List α) (lo hi : Option Int) : List α := (l.drop (HT.sIx l.length 0 lo)).take (HT.sIx l.length l.length hi - HT.sIx l.length 0 lo)
def sliW (x : W) (lo hi : Option Int) (S : Sto) : Out W := match x with
  | .v (.str z) => need (z.length ≤ sizeLine) (okD S (.str (cutS z lo hi)))
  | x => opt (listOf S x) fun l => alc (.lst (cutW l lo hi)) S
/-- a length: an int within bounds, no error -/
def lenO : Out W → Out W
  | .ok (.v (.int i)) S => need (0 ≤ i ∧ i < 2 ^ 63) (okD S (.int i))
  | _ => .bad
/-- a bool, no error -/
def boolN : Out W → Out W
  | .ok (.v (.bl b)) S => okB S b
  | _ => .bad
/-- all comparable -/
def ordD (l : List D) : Bool := l.all (fun x => datD x && l.all fun y => ltOk 6 x y)
def biW (T : Tb) (b : Bi) (x : W) (S : Sto) : Out W := match b with
  | .len => match x with
    | .v (.str z) => need (z.length ≤ sizeLine) (okD S (.int z.length))
    | .v (.scr l) => okD S (.int l.length)
    | x => match objOf S x with
      | some p => opt (asc "__len__" (T.ci p.1).mths) fun f => lenO (callW T f [x] S)
      | none => opt (seqOf S x) fun l => okD S (.int l.length)
  | .int => match x with
    | .v (.int i) => okD S (.int i)
    | .v (.bl b) => okD S (.int (if b then 1 else 0))
    | .v (.str z) => opt (PySem.intText? z) fun n => need (z.length ≤ 640) (okD S (.int n))
    | _ => .bad
  | .all => opt (listOf S x) fun l => opt (unV l) fun ds => opt (boolsOf ds) fun bs => okB S (bs.all id)
  | .any => opt (listOf S x) fun l => opt (unV l) fun ds => opt (boolsOf ds) fun bs => okB S (bs.any id)
  | .list => opt (seqOf S x) fun l => alc (.lst l) S
  | .tuple => match x with
    | .v (.tup l) => okD S (.tup l)
    | x => opt (listOf S x) fun l => opt (unV l) fun ds => okD S (.tup ds)
  | .str => match x with
    | .v (.str z) => okD S (.str z)
    | _ => .bad
  | .bool => match objOf S x with
    | some p => opt (asc "__bool__" (T.ci p.1).mths) fun f => boolN (callW T f [x] S)
    | none => match listOf S x with
      | some l => okB S (!l.isEmpty)
      | none => match x with
        | .v (.int i) => okB S (i != 0)
        | .v (.bl b) => okB S b
        | _ => .bad
  | .sorted => opt (listOf S x) fun l => opt (unV l) fun ds => match strsOf ds with
    | some ss => need (ss.length < 64) (alc (.lst (((sortS ss).map D.str).map W.v)) S)
    | none => need (pairsOk ds = true) (alc (.lst ((sortT ds).map W.v)) S)
  | _ => .bad
def bjW (b : Bj) (x y : W) (S : Sto) : Out W := match b, x, y with
  | .min, .v (.int i), .v (.int j) => okD S (.int (if j < i then j else i))
  | .max, .v (.int i), .v (.int j) => okD S (.int (if j > i then j else i))
  | _, _, _ => .bad
/-- the built-in class of a tree, of a cell -/
def clsD : D → Option String
  | .non => some "NoneType"
  | .bl _ => some "bool"
  | .int _ => some "int"
  | .str _ => some "str"
  | .tup _ => some "tuple"
  | .lst _ => some "list"
  | _ => none
def clsC : Cell → Option String
  | .lst _ => some "list"
  | .tup _ => some "tuple"
  | _ => none
def clsW (S : Sto) : W → Option String
  | .v d => clsD d
  | .r n => match S[n]? with
    | some c => clsC c
    | none => none
def tyB : Ty → String → Bool
  | .int, s => s == "int" || s == "bool"
  | .str, s => s == "str"
  | .bool, s => s == "bool"
  | .list, s => s == "list"
  | .tuple, s => s == "tuple"
def isiW (T : Tb) (t : Ty) (x : W) (S : Sto) : Out W := match objOf S x with
  | some p => need ((T.ci p.1).sups.contains p.1 = true) (okB S false)
  | none => opt (clsW S x) fun s => okB S (tyB t s)
def iscW (T : Tb) (c : Nat) (x : W) (S : Sto) : Out W := match objOf S x with
  | some p => need ((T.ci p.1).sups.contains p.1 = true) (okB S ((T.ci p.1).sups.contains c))
  | none => opt (clsW S x) fun _ => okB S false
def mt1W (m : Mt) (a : Str) (y : W) (S : Sto) : Out W := match m with
  | .join => opt (listOf S y) fun l => opt (unV l) fun ds => opt (strsOf ds) fun ys => need ((ys.map (·.length)).sum + ys.length * a.length ≤ 16777216) (okD S (.str (Txt.join a ys)))
  | .split => match y with
    | .v (.str b) => need ((b.length == 0) = false ∧ a.length + 2 ≤ sizeLine) (alc (.lst ((Txt.split a b).map fun z => W.v (.str z))) S)
    | _ => .bad
  | .starts => .bad
def mtE (m : Mt) (mb : Sto → Out W) (x : W) (S : Sto) : Out W := match x with
  | .v (.str a) => (mb S).bind (mt1W m a)
  | _ => .bad
/-- settled: what the expression made is a tree, the store as before -/
def frzW (k : Nat) (w : W) (S' : Sto) : Out W := match w with
  | .v d => .ok (.v d) S'
  | .r n => opt (rdf k S' 4 (.r n)) fun d => opt (cut k S') fun S1 => .ok (.v d) S1

/-! ### the interpreter -/
abbrev Env' := List (Option W)
/-- a variable -/
def varW (Γ : Env') (i : Nat) (S : Sto) : Out W := match Γ[i]? with
  | some (some w) => .ok w S
  | _ => .bad
def consK' (x : W) (l : List W) (S : Sto) : Out (List W) := .ok (x :: l) S
/-- a comprehension over the items; the store stays -/
def lcRun (f : W → Out (Option W)) : List W → Out (List W)
  | [] => .ok [] []
  | d :: r => match f d with
    | .ok (some x) _ => (lcRun f r).bind (consK' x)
    | .ok none _ => lcRun f r
    | _ => .bad
open Classical in
noncomputable def someK (S : Sto) (w : W) (S' : Sto) : Out (Option W) := need (S' = S) (.ok (some w) [])
noncomputable def lcF (ev : Sto → Out W) (S : Sto) : Out (Option W) := (ev S).bind (someK S)
open Classical in
noncomputable def lccK (ev : Sto → Out W) (S : Sto) (b : Bool) (S' : Sto) : Out (Option W) := need (S' = S) (if b then lcF ev S else .ok none [])
noncomputable def lccF (t : Sto → Out Bool) (ev : Sto → Out W) (S : Sto) : Out (Option W) := (t S).bind (lccK ev S)
def lcK (S : Sto) (n : Nat) (l : List W) (_ : Sto) : Out W := need (n ≤ sizeLine) (alc (.lst l) S)
def lcE (f : W → Out (Option W)) (S : Sto) (l : List W) : Out W := (lcRun f l).bind (lcK S l.length)
def consK (x : W) (l : List W) (S : Sto) : Out (List W) := .ok (x :: l) S
def consE (m : Sto → Out (List W)) (x : W) (S : Sto) : Out (List W) := (m S).bind (consK x)
def appK (x l : List W) (S : Sto) : Out (List W) := .ok (x ++ l) S
def starE (m : Sto → Out (List W)) (x : W) (S : Sto) : Out (List W) := opt (seqOf S x) fun l => (m S).bind (appK l)
def two {β : Type} (m : Sto → Out W) (k : W → W → Sto → Out β) (x : W) (S : Sto) : Out β := (m S).bind (k x)
def tupK (l : List W) (S : Sto) : Out W := need (l.length ≤ sizeLine) (match unV l with
  | some ds => okD S (.tup ds)
  | none => alc (.tup l) S)
def lstK (l : List W) (S : Sto) : Out W := need (l.length ≤ sizeLine) (alc (.lst l) S)
def callK (T : Tb) (f : Nat) (ds : List Df) (ws : List W) (S : Sto) : Out W := callW T f (ws ++ dfs ds) S
def callLK (T : Tb) (f : Nat) (ds : List Df) (ws : List W) (S : Sto) : Out W := callL T f (ws ++ dfs ds) S
def makeK (T : Tb) (c f : Nat) (ds : List Df) (ws : List W) (S : Sto) : Out W := makeW T c f (ws ++ dfs ds) S
def mthK (T : Tb) (f : Nat) (ds : List Df) (x : W) (ws : List W) (S : Sto) : Out W := callW T f (x :: (ws ++ dfs ds)) S
def mthLK (T : Tb) (f : Nat) (ds : List Df) (x : W) (ws : List W) (S : Sto) : Out W := callL T f (x :: (ws ++ dfs ds)) S
def negK : W → Sto → Out W
  | .v (.int i), S => okD S (.int (-i))
  | _, _ => .bad
def notK (b : Bool) (S : Sto) : Out W := okB S (!b)
def notW (T : Tb) (x : W) (S : Sto) : Out W := (truW T x S).bind notK
def andK (m : Sto → Out W) (x : W) (z : Bool) (S : Sto) : Out W := if z then m S else .ok x S
def orK (m : Sto → Out W) (x : W) (z : Bool) (S : Sto) : Out W := if z then .ok x S else m S
def andE (T : Tb) (m : Sto → Out W) (x : W) (S : Sto) : Out W := (truW T x S).bind (andK m x)
def orE (T : Tb) (m : Sto → Out W) (x : W) (S : Sto) : Out W := (truW T x S).bind (orK m x)
def ifE {α : Type} (m n : Sto → Out α) (b : Bool) (S : Sto) : Out α := if b then m S else n S
def chK2 (T : Tb) (o : CO) (y z : W) (S : Sto) : Out W := cmpW T o y z S
def chK1 (T : Tb) (o : CO) (mc : Sto → Out W) (y : W) : W → Sto → Out W
  | .v (.bl c), S => if c then (mc S).bind (chK2 T o y) else okB S false
  | _, _ => .bad
def chK (T : Tb) (o1 o2 : CO) (mc : Sto → Out W) (x y : W) (S : Sto) : Out W := (cmpW T o1 x y S).bind (chK1 T o2 mc y)
def slK2 (x : W) (lo hi : Option Int) (S : Sto) : Out W := sliW x lo hi S
def slK1 (mh : Sto → Out (Option Int)) (x : W) (lo : Option Int) (S : Sto) : Out W := (mh S).bind (slK2 x lo)
def slK (ml mh : Sto → Out (Option Int)) (x : W) (S : Sto) : Out W := (ml S).bind (slK1 mh x)
def poK : W → Sto → Out (Option Int)
  | .v (.int i), S => .ok (some i) S
  | _, _ => .bad
/-- what is walked: a list or a tuple; a text, a range as the tuple of its items -/
def sgnK : W → Sto → Out W
  | .v (.str z), S => need (z.length ≤ sizeLine) (okD S (.tup (z.cps.toList.map fun c => .str (chr1 c))))
  | _, _ => .bad
def seqK (x : W) (S : Sto) : Out W := match x with
  | .v (.str z) => sgnK (.v (.str z)) S
  | x => opt (seqOf S x) fun _ => .ok x S
def r1K : W → Sto → Out W
  | .v (.int n), S => need (-(2 ^ 62) ≤ n ∧ n < 2 ^ 62) (okD S (.tup (rangeD 0 n.toNat)))
  | _, _ => .bad
def r2K : W → W → Sto → Out W
  | .v (.int lo), .v (.int hi), S => need ((-(2 ^ 62) ≤ lo ∧ lo < 2 ^ 62) ∧ (-(2 ^ 62) ≤ hi ∧ hi < 2 ^ 62)) (okD S (.tup (rangeD lo (hi - lo).toNat)))
  | _, _, _ => .bad
def lrK : W → W → Sto → Out W
  | .v (.int lo), .v (.int hi), S => need ((hi - lo).toNat ≤ 16777216) (alc (.lst ((rangeD lo (hi - lo).toNat).map W.v)) S)
  | _, _, _ => .bad
/-- a comprehension's turn -/
noncomputable def turnF (ev : Env' → Sto → Out W) (Γ : Env') (i : Nat) (S : Sto) (d : W) : Out (Option W) := lcF (ev (Γ.set i (some d))) S
noncomputable def turnC (t : Env' → Sto → Out Bool) (ev : Env' → Sto → Out W) (Γ : Env') (i : Nat) (S : Sto) (d : W) : Out (Option W) := lccF (t (Γ.set i (some d))) (ev (Γ.set i (some d))) S
def setAll : List Nat → List W → Env' → Env'
  | i :: is, w :: ws, Γ => setAll is ws (Γ.set i (some w))
  | _, _, Γ => Γ
def unsets : List Nat → Env' → Env'
  | [], Γ => Γ
  | i :: is, Γ => (unsets is Γ).set i none
/-- a turn's names: one, several -/
def stp1 (i : Nat) (d : W) (Γ : Env') : Option Env' := some (Γ.set i (some d))
def tupOf : W → Option (List D)
  | .v (.tup l) => some l
  | _ => none
def stpU (is : List Nat) (d : W) (Γ : Env') : Option Env' := match tupOf d with
  | some l => if l.length = is.length then some (setAll is (l.map W.v) Γ) else none
  | none => none
def stpC (is : List Nat) (d : W) (Γ : Env') : Option Env' := stpU is d (unsets is Γ)
noncomputable def turnG (stp : W → Env' → Option Env') (ev : Env' → Sto → Out W) (Γ : Env') (S : Sto) (d : W) : Out (Option W) := opt (stp d Γ) fun Γ' => lcF (ev Γ') S
noncomputable def turnGC (stp : W → Env' → Option Env') (t : Env' → Sto → Out Bool) (ev : Env' → Sto → Out W) (Γ : Env') (S : Sto) (d : W) : Out (Option W) := opt (stp d Γ) fun Γ' => lccF (t Γ') (ev Γ') S
noncomputable def lcG0 (stp : W → Env' → Option Env') (ev : Env' → Sto → Out W) (Γ : Env') (w : W) (S : Sto) : Out W := opt (seqOf S w) (lcE (turnG stp ev Γ S) S)
noncomputable def lcG1 (stp : W → Env' → Option Env') (t : Env' → Sto → Out Bool) (ev : Env' → Sto → Out W) (Γ : Env') (w : W) (S : Sto) : Out W := opt (seqOf S w) (lcE (turnGC stp t ev Γ S) S)
def stpX : Tg → W → Env' → Option Env'
  | .one i, d, Γ => some (Γ.set i (some d))
  | .tup is, d, Γ => stpU is d Γ
/-- a target's names, others unset -/
def stpV (vs : List Nat) (g : Tg) (d : W) (Γ : Env') : Option Env' := stpX g d (unsets vs Γ)
/-! two generators -/
def lcRunL (f : W → Out (List W)) : List W → Out (List W)
  | [] => .ok [] []
  | d :: r => match f d with
    | .ok xs _ => (lcRunL f r).bind (fun l S => .ok (xs ++ l) S)
    | _ => .bad
open Classical in
noncomputable def lc2In (f2 : W → Out (Option W)) (S : Sto) (w : W) (S' : Sto) : Out (List W) := need (S' = S) (opt (seqOf S w) (lcRun f2))
noncomputable def lc2F (it2 : Env' → Sto → Out W) (f2 : Env' → Sto → W → Out (Option W)) (S : Sto) (Γ1 : Env') : Out (List W) := (it2 Γ1 S).bind (lc2In (f2 Γ1 S) S)
noncomputable def lc2T (vs : List Nat) (g1 : Tg) (it2 : Env' → Sto → Out W) (f2 : Env' → Sto → W → Out (Option W)) (Γ : Env') (S : Sto) (d : W) : Out (List W) := opt (stpV vs g1 d Γ) (lc2F it2 f2 S)
def lc2K (S : Sto) (l : List W) (_ : Sto) : Out W := need (l.length ≤ sizeLine) (alc (.lst l) S)
def lc2L (f : W → Out (List W)) (S : Sto) (l : List W) : Out W := (lcRunL f l).bind (lc2K S)
noncomputable def lc2E (vs : List Nat) (g1 : Tg) (it2 : Env' → Sto → Out W) (f2 : Env' → Sto → W → Out (Option W)) (Γ : Env') (w : W) (S : Sto) : Out W := opt (seqOf S w) (lc2L (lc2T vs g1 it2 f2 Γ S) S)
noncomputable def lc2f (g2 : Tg) (ev : Env' → Sto → Out W) (Γ1 : Env') (S : Sto) : W → Out (Option W) := turnG (stpV g2.ns g2) ev Γ1 S
noncomputable def lc2fc (g2 : Tg) (t : Env' → Sto → Out Bool) (ev : Env' → Sto → Out W) (Γ1 : Env') (S : Sto) : W → Out (Option W) := turnGC (stpV g2.ns g2) t ev Γ1 S
def enumD (l : List D) : List D := l.zipIdx.map fun p => D.tup [.int (p.2 : Nat), p.1]
def enK : W → Sto → Out W
  | .v (.lst l), S => okD S (.tup (enumD l))
  | _, _ => .bad
noncomputable def lcE0 (ev : Env' → Sto → Out W) (Γ : Env') (i : Nat) (w : W) (S : Sto) : Out W := opt (seqOf S w) (lcE (turnF ev Γ i S) S)
noncomputable def lcE1 (t : Env' → Sto → Out Bool) (ev : Env' → Sto → Out W) (Γ : Env') (i : Nat) (w : W) (S : Sto) : Out W := opt (seqOf S w) (lcE (turnC t ev Γ i S) S)
def mthE (T : Tb) (m : Str) (ds : List Df) (ma : Sto → Out (List W)) (x : W) (S : Sto) : Out W := opt (objOf S x) fun p => opt (asc m (T.ci p.1).mths) fun f => (ma S).bind (mthK T f ds x)
def mthLE (T : Tb) (m : Str) (ds : List Df) (ma : Sto → Out (List W)) (x : W) (S : Sto) : Out W := opt (objOf S x) fun p => opt (asc m (T.ci p.1).mths) fun f => (ma S).bind (mthLK T f ds x)
def supE (T : Tb) (f : Nat) (ma : Sto → Out (List W)) (x : W) (S : Sto) : Out W := (ma S).bind (mthK T f [] x)
def cmpT (T : Tb) (op : CO) (x y : W) (S : Sto) : Out Bool := (cmpW T op x y S).bind truO
def chT (T : Tb) (o1 o2 : CO) (mc : Sto → Out W) (x y : W) (S : Sto) : Out Bool := (chK T o1 o2 mc x y S).bind truO
def okF (S : Sto) : Out Bool := .ok false S
def okT1 (S : Sto) : Out Bool := .ok true S
def notT (b : Bool) (S : Sto) : Out Bool := .ok (!b) S

noncomputable section
mutual
def ev (T : Tb) : CE → Env' → Sto → Out W
  | .var i => fun Γ S => varW Γ i S
  | .int i => fun _ S => okD S (.int i)
  | .str s => fun _ S => okD S (.str s)
  | .bl b => fun _ S => okD S (.bl b)
  | .non => fun _ S => okD S .non
  | .glo j => fun _ S => opt (T.cs j) (okD S)
  | .bin op a b => fun Γ S => (ev T a Γ S).bind (two (ev T b Γ) (binW T op))
  | .neg a => fun Γ S => (ev T a Γ S).bind negK
  | .notv a => fun Γ S => (ev T a Γ S).bind (notW T)
  | .andv a b => fun Γ S => (ev T a Γ S).bind (andE T (ev T b Γ))
  | .orv a b => fun Γ S => (ev T a Γ S).bind (orE T (ev T b Γ))
  | .cmp op a b => fun Γ S => (ev T a Γ S).bind (two (ev T b Γ) (cmpW T op))
  | .chain o1 o2 a b c => fun Γ S => (ev T a Γ S).bind (two (ev T b Γ) (chK T o1 o2 (ev T c Γ)))
  | .ifx t a b => fun Γ S => (evt T t Γ S).bind (ifE (ev T a Γ) (ev T b Γ))
  | .tup l => fun Γ S => (evs T l Γ S).bind tupK
  | .lst l => fun Γ S => (evs T l Γ S).bind lstK
  | .idx a b => fun Γ S => (ev T a Γ S).bind (two (ev T b Γ) idxW)
  | .sli a lo hi => fun Γ S => (ev T a Γ S).bind (slK (evo T lo Γ) (evo T hi Γ))
  | .frz a => fun Γ S => (ev T a Γ S).bind (frzW S.length)
  | .call f l ds => fun Γ S => (evs T l Γ S).bind (callK T f ds)
  | .calL f l ds => fun Γ S => (evs T l Γ S).bind (callLK T f ds)
  | .mk c f l ds => fun Γ S => (evs T l Γ S).bind (makeK T c f ds)
  | .scal f l ds => fun Γ S => (evs T l Γ S).bind (callK T f ds)
  | .sup f l => fun Γ S => (varW Γ 0 S).bind (supE T f (evs T l Γ))
  | .fld o a => fun Γ S => (ev T o Γ S).bind (fldW T a)
  | .prp o a => fun Γ S => (ev T o Γ S).bind (prpW T a)
  | .con o a => fun Γ S => (ev T o Γ S).bind (conW T a)
  | .ccn c a => fun _ S => opt (asc a (T.ci c).cons) (okD S)
  | .mth o m l ds => fun Γ S => (ev T o Γ S).bind (mthE T m ds (evs T l Γ))
  | .mtL o m l ds => fun Γ S => (ev T o Γ S).bind (mthLE T m ds (evs T l Γ))
  | .isc a c => fun Γ S => (ev T a Γ S).bind (iscW T c)
  | .isi a t => fun Γ S => (ev T a Γ S).bind (isiW T t)
  | .bi b a => fun Γ S => (ev T a Γ S).bind (biW T b)
  | .bj b x y => fun Γ S => (ev T x Γ S).bind (two (ev T y Γ) (bjW b))
  | .lrg a b => fun Γ S => (ev T a Γ S).bind (two (ev T b Γ) lrK)
  | .mt1 m o a => fun Γ S => (ev T o Γ S).bind (mtE m (ev T a Γ))
  | .lc e i s => fun Γ S => (evi T s Γ S).bind (lcE0 (ev T e) Γ i)
  | .lcc e i s t => fun Γ S => (evi T s Γ S).bind (lcE1 (evt T t) (ev T e) Γ i)
  | .lcu e is s => fun Γ S => (evi T s Γ S).bind (lcG0 (stpC is) (ev T e) Γ)
  | .lccu e is s t => fun Γ S => (evi T s Γ S).bind (lcG1 (stpC is) (evt T t) (ev T e) Γ)
  | .lc2 e g1 s1 g2 s2 => fun Γ S => (evi T s1 Γ S).bind (lc2E (g1.ns ++ g2.ns) g1 (evi T s2) (lc2f g2 (ev T e)) Γ)
  | .lc2c e g1 s1 g2 s2 t => fun Γ S => (evi T s1 Γ S).bind (lc2E (g1.ns ++ g2.ns) g1 (evi T s2) (lc2fc g2 (evt T t) (ev T e)) Γ)
def evs (T : Tb) : CL → Env' → Sto → Out (List W)
  | .nil => fun _ S => .ok [] S
  | .cons e l => fun Γ S => (ev T e Γ S).bind (consE (evs T l Γ))
  | .star e l => fun Γ S => (ev T e Γ S).bind (starE (evs T l Γ))
def evt (T : Tb) : CT → Env' → Sto → Out Bool
  | .e c => fun Γ S => (ev T c Γ S).bind (truW T)
  | .cmp op a b => fun Γ S => (ev T a Γ S).bind (two (ev T b Γ) (cmpT T op))
  | .chain o1 o2 a b c => fun Γ S => (ev T a Γ S).bind (two (ev T b Γ) (chT T o1 o2 (ev T c Γ)))
  | .and a b => fun Γ S => (evt T a Γ S).bind (ifE (evt T b Γ) okF)
  | .or a b => fun Γ S => (evt T a Γ S).bind (ifE okT1 (evt T b Γ))
  | .not a => fun Γ S => (evt T a Γ S).bind notT
def evo (T : Tb) : CP → Env' → Sto → Out (Option Int)
  | .no => fun _ S => .ok none S
  | .so e => fun Γ S => (ev T e Γ S).bind poK
def evi (T : Tb) : CI → Env' → Sto → Out W
  | .e c => fun Γ S => (ev T c Γ S).bind seqK
  | .s c => fun Γ S => (ev T c Γ S).bind sgnK
  | .r1 a => fun Γ S => (ev T a Γ S).bind r1K
  | .r2 a b => fun Γ S => (ev T a Γ S).bind (two (ev T b Γ) r2K)
  | .en c => fun Γ S => (ev T c Γ S).bind enK
end

/-! ### statements -/
inductive SOut where
  | nx (Γ : Env') (S : Sto)
  | bk (Γ : Env') (S : Sto)
  | ct (Γ : Env') (S : Sto)
  | rt (w : W) (S : Sto)
  | er (e : Er) (Γ : Env') (S : Sto)
  | bad
def SOut.seq (o : SOut) (k : Env' → Sto → SOut) : SOut := match o with
  | .nx Γ S => k Γ S
  | o => o
@[simp] theorem SOut.seq_nx (Γ : Env') (S : Sto) (k : Env' → Sto → SOut) : (SOut.nx Γ S).seq k = k Γ S := id rfl
@[simp] theorem SOut.seq_bk (Γ : Env') (S : Sto) (k : Env' → Sto → SOut) : (SOut.bk Γ S).seq k = .bk Γ S := id rfl
@[simp] theorem SOut.seq_ct (Γ : Env') (S : Sto) (k : Env' → Sto → SOut) : (SOut.ct Γ S).seq k = .ct Γ S := id rfl
@[simp] theorem SOut.seq_rt (w : W) (S : Sto) (k : Env' → Sto → SOut) : (SOut.rt w S).seq k = .rt w S := id rfl
@[simp] theorem SOut.seq_er (e : Er) (Γ : Env') (S : Sto) (k : Env' → Sto → SOut) : (SOut.er e Γ S).seq k = .er e Γ S := id rfl
@[simp] theorem SOut.seq_bad (k : Env' → Sto → SOut) : SOut.bad.seq k = .bad := id rfl
/-- an expression's outcome, in a statement -/
def liftE {α : Type} (Γ : Env') (o : Out α) (k : α → Sto → SOut) : SOut := match o with
  | .ok a S => k a S
  | .err e S => .er e Γ S
  | .bad => .bad
@[simp] theorem liftE_ok {α : Type} (Γ : Env') (a : α) (S : Sto) (k : α → Sto → SOut) : liftE Γ (.ok a S) k = k a S := id rfl
@[simp] theorem liftE_err {α : Type} (Γ : Env') (e : Er) (S : Sto) (k : α → Sto → SOut) : liftE Γ (.err e S) k = .er e Γ S := id rfl
@[simp] theorem liftE_bad {α : Type} (Γ : Env') (k : α → Sto → SOut) : liftE Γ (.bad) k = .bad := id rfl
def optS {α : Type} (o : Option α) (k : α → SOut) : SOut := match o with
  | some a => k a
  | none => .bad
@[simp] theorem optS_some {α : Type} (a : α) (k : α → SOut) : optS (some a) k = k a := id rfl
def needS (c : Prop) [Decidable c] (o : SOut) : SOut := if c then o else .bad
@[simp] theorem needS_T {i : Decidable True} {o : SOut} : @needS True i o = o := if_pos trivial
def nxS (Γ : Env') (S : Sto) : SOut := .nx Γ S
def setK (Γ : Env') (i : Nat) (w : W) (S : Sto) : SOut := .nx (Γ.set i (some w)) S
def unpK (Γ : Env') (is : List Nat) (w : W) (S : Sto) : SOut := optS (seqOf S w) fun l => needS (l.length = is.length) (.nx (setAll is l Γ) S)
def putA (l : List W) (k : Nat) (d : W) : Option (List W) := if k < l.length then some (l.set k d) else if k = l.length then some (l ++ [d]) else none
/-- self.a = w -/
def sfldK (T : Tb) (Γ : Env') (i : Nat) (a : Str) (w : W) (S : Sto) : SOut := match Γ[i]? with
  | some (some (.r n)) => match S[n]? with
    | some (.ins c l) => optS (ixOf a (T.ci c).flds) fun k => optS (putA l k w) fun l' => .nx Γ (S.set n (.ins c l'))
    | _ => .bad
  | _ => .bad
/-- the list at a cell changes -/
def mutL (Γ : Env') (S : Sto) (x : W) (f : List W → Option (List W)) : SOut := match x with
  | .r n => match S[n]? with
    | some (.lst l) => optS (f l) fun l' => .nx Γ (S.set n (.lst l'))
    | _ => .bad
  | _ => .bad
def sixF (k : Int) (w : W) (l : List W) : Option (List W) := match ixN l.length k with
  | some j => some (l.set j w)
  | none => none
def six3 (Γ : Env') (w x y : W) (S : Sto) : SOut := optS (intW y) fun k => mutL Γ S x (sixF k w)
def six2 (Γ : Env') (mi : Sto → Out W) (w x : W) (S : Sto) : SOut := liftE Γ (mi S) (six3 Γ w x)
def six1 (Γ : Env') (mo mi : Sto → Out W) (w : W) (S : Sto) : SOut := liftE Γ (mo S) (six2 Γ mi w)
def appF (w : W) (l : List W) : Option (List W) := if l.length < sizeLine then some (l ++ [w]) else none
def app2 (Γ : Env') (x w : W) (S : Sto) : SOut := mutL Γ S x (appF w)
def app1 (Γ : Env') (me : Sto → Out W) (x : W) (S : Sto) : SOut := optS (listOf S x) fun _ => liftE Γ (me S) (app2 Γ x)
def clrF (_ : List W) : Option (List W) := some []
def clr1 (Γ : Env') (x : W) (S : Sto) : SOut := mutL Γ S x clrF
def rvsF (l : List W) : Option (List W) := some l.reverse
def rvs1 (Γ : Env') (x : W) (S : Sto) : SOut := mutL Γ S x rvsF
def insF (k : Int) (w : W) (l : List W) : Option (List W) := if 0 ≤ k ∧ k ≤ l.length ∧ l.length < sizeLine then some (l.take k.toNat ++ w :: l.drop k.toNat) else none
def ins3 (Γ : Env') (x y w : W) (S : Sto) : SOut := optS (intW y) fun k => mutL Γ S x (insF k w)
def ins2 (Γ : Env') (me : Sto → Out W) (x y : W) (S : Sto) : SOut := liftE Γ (me S) (ins3 Γ x y)
def ins1 (Γ : Env') (mi me : Sto → Out W) (x : W) (S : Sto) : SOut := optS (listOf S x) fun _ => liftE Γ (mi S) (ins2 Γ me x)
def popI (n : Nat) (o : Option Int) : Option Nat := match o with
  | some k => if -(2 ^ 63) ≤ k ∧ k < 2 ^ 63 then ixN n k else none
  | none => ixN n (-1)
def putE (i : Option Nat) (w : W) (Γ : Env') : Env' := match i with
  | some i => Γ.set i (some w)
  | none => Γ
def pop2 (Γ : Env') (i : Option Nat) (x : W) (o : Option Int) (S : Sto) : SOut := match x with
  | .r n => match S[n]? with
    | some (.lst l) => optS (popI l.length o) fun j => optS l[j]? fun w => .nx (putE i w Γ) (S.set n (.lst (l.eraseIdx j)))
    | _ => .bad
  | _ => .bad
def pop1 (Γ : Env') (i : Option Nat) (mo : Sto → Out (Option Int)) (x : W) (S : Sto) : SOut := optS (listOf S x) fun _ => liftE Γ (mo S) (pop2 Γ i x)
def exK (Γ : Env') (_ : W) (S : Sto) : SOut := .nx Γ S
def retK (w : W) (S : Sto) : SOut := .rt w S
def iteK (a b : Sto → SOut) (z : Bool) (S : Sto) : SOut := if z then a S else b S
/-! the loop: what is walked stays as it is -/
def sqOf (S : Sto) (w : W) : Option (Bool × List W) := match seqOf S w with
  | some l => some ((listOf S w).isSome, l)
  | none => none
open Classical in
noncomputable def forW (f : W → Env' → Sto → SOut) (w : W) (p : Bool × List W) : List W → Env' → Sto → SOut
  | [], Γ, S => .nx Γ S
  | d :: r, Γ, S => match f d Γ S with
    | .nx Γ' S' => needS (sqOf S' w = some p) (forW f w p r Γ' S')
    | .ct Γ' S' => needS (sqOf S' w = some p) (forW f w p r Γ' S')
    | .bk Γ' S' => .nx Γ' S'
    | .rt v S' => .rt v S'
    | .er e Γ' S' => .er e Γ' S'
    | .bad => .bad
def lpS (ex : Nat → Env' → Sto → SOut) (i : Nat) (d : W) (Γ : Env') (S : Sto) : SOut := ex S.length (Γ.set i (some d)) S
noncomputable def forK (ex : Nat → Env' → Sto → SOut) (Γ : Env') (i : Nat) (w : W) (S : Sto) : SOut := optS (sqOf S w) fun p => forW (lpS ex i) w p p.2 Γ S
def lpG (ex : Nat → Env' → Sto → SOut) (stp : W → Env' → Option Env') (d : W) (Γ : Env') (S : Sto) : SOut := optS (stp d Γ) fun Γ' => ex S.length Γ' S
noncomputable def forG (ex : Nat → Env' → Sto → SOut) (stp : W → Env' → Option Env') (Γ : Env') (w : W) (S : Sto) : SOut := optS (sqOf S w) fun p => forW (lpG ex stp) w p p.2 Γ S
def raiK (T : Tb) (Γ : Env') (c : Nat) (ws : List W) (S : Sto) : SOut := optS (unV ws) fun ds => .er ⟨c, .str (T.ci c).name :: ds⟩ Γ S
/-- handlers -/
def xi (T : Tb) (e : Er) : XI → Option D
  | .str s => some (.str s)
  | .fld f => match ixOf f (T.ci e.c).flds with
    | some k => e.fs[k]?
    | none => none
  | .isc c => some (.bl ((T.ci e.c).sups.contains c))
  | .isv => some (.bl true)
  | .and a b => match xi T e a with
    | some (.bl z) => if z then xi T e b else some (.bl false)
    | _ => none
  | .or a b => match xi T e a with
    | some (.bl z) => if z then some (.bl true) else xi T e b
    | _ => none
def xis (T : Tb) (e : Er) : List XI → Option (List D)
  | [] => some []
  | x :: l => match xi T e x with
    | some d => (xis T e l).map (d :: ·)
    | none => none
def hdR (T : Tb) (e : Er) (Γ : Env') (S : Sto) (h : Hd) : SOut := match h.h with
  | .lst i l => optS (xis T e l) fun ds => .nx ((Γ.set i (some (.v (.lst ds)))).set h.e none) S
  | .one i x => optS (xi T e x) fun d => .nx ((Γ.set i (some (.v d))).set h.e none) S
def hdl (T : Tb) (e : Er) (Γ : Env') (S : Sto) : List Hd → SOut
  | [] => .er e Γ S
  | h :: l => if (T.ci e.c).sups.contains h.c = true then hdR T e Γ S h else hdl T e Γ S l
def tryK (T : Tb) (hs : List Hd) : SOut → SOut
  | .er e Γ S => hdl T e Γ S hs
  | o => o
/-- a name's object is settled -/
def subO (n : Nat) (d : D) : Option W → Option W
  | some (.r m) => if m = n then some (.v d) else some (.r m)
  | o => o
def nrW (n : Nat) : W → Bool
  | .v _ => true
  | .r m => decide (m ≠ n)
def Cell.nr (n : Nat) : Cell → Bool
  | .dead => true
  | .lst l => l.all (nrW n)
  | .tup l => l.all (nrW n)
  | .dct _ l => l.all (nrW n)
  | .ins _ l => l.all (nrW n)
def popS (n : Nat) (S : Sto) : Sto := if n + 1 = S.length then S.take n else S.set n .dead
def frzS (b i : Nat) (k : Env' → Sto → SOut) (Γ : Env') (S : Sto) : SOut := match Γ[i]? with
  | some (some (.r n)) => needS (b ≤ n) (optS S[n]? fun c => optS c.tree fun d => needS (S.all (Cell.nr n) = true) (k (Γ.map (subO n d)) (popS n S)))
  | some (some (.v _)) => k Γ S
  | _ => .bad
mutual
def exec (T : Tb) : CS → Nat → Env' → Sto → SOut
  | .set i e => fun b Γ S => liftE Γ (ev T e Γ S) (setK Γ i)
  | .unp is e => fun b Γ S => liftE Γ (ev T e Γ S) (unpK Γ is)
  | .sfld i a e => fun b Γ S => liftE Γ (ev T e Γ S) (sfldK T Γ i a)
  | .sidx o ix e => fun b Γ S => liftE Γ (ev T e Γ S) (six1 Γ (ev T o Γ) (ev T ix Γ))
  | .app o e => fun b Γ S => liftE Γ (ev T o Γ S) (app1 Γ (ev T e Γ))
  | .ins o ix e => fun b Γ S => liftE Γ (ev T o Γ S) (ins1 Γ (ev T ix Γ) (ev T e Γ))
  | .del o ix => fun b Γ S => liftE Γ (ev T o Γ S) (pop1 Γ none (evo T ix Γ))
  | .setp i o ix => fun b Γ S => liftE Γ (ev T o Γ S) (pop1 Γ (some i) (evo T ix Γ))
  | .clr o => fun b Γ S => liftE Γ (ev T o Γ S) (clr1 Γ)
  | .rvs o => fun b Γ S => liftE Γ (ev T o Γ S) (rvs1 Γ)
  | .ex e => fun b Γ S => liftE Γ (ev T e Γ S) (exK Γ)
  | .ret e => fun b Γ S => liftE Γ (ev T e Γ S) retK
  | .ret0 => fun _ _ S => .rt (.v .non) S
  | .ite t x y => fun b Γ S => liftE Γ (evt T t Γ S) (iteK (execs T x b Γ) (execs T y b Γ))
  | .fr i s x => fun b Γ S => liftE Γ (evi T s Γ S) (forK (execs T x) Γ i)
  | .fru is s x => fun b Γ S => liftE Γ (evi T s Γ S) (forG (execs T x) (stpU is) Γ)
  | .brk => fun b Γ S => .bk Γ S
  | .cnt => fun b Γ S => .ct Γ S
  | .pas => fun b Γ S => .nx Γ S
  | .bot => fun _ _ _ => .bad
  | .rai c _ l => fun b Γ S => liftE Γ (evs T l Γ S) (raiK T Γ c)
  | .try_ x hs => fun b Γ S => tryK T hs (execs T x b Γ S)
def execs (T : Tb) : CB → Nat → Env' → Sto → SOut
  | .nil => fun b Γ S => .nx Γ S
  | .cons s x => fun b Γ S => (exec T s b Γ S).seq (execs T x b)
  | .frz i x => fun b Γ S => frzS b i (execs T x b) Γ S
end
def retO : SOut → Out W
  | .rt w S => .ok w S
  | .nx _ S => .ok (.v .non) S
  | .er e _ S => .err e S
  | _ => .bad
/-- a def's value at its arguments: n names, the parameters first -/
def runD (T : Tb) (n : Nat) (x : CB) (S : Sto) (ws : List W) : Out W := retO (execs T x S.length (ws.map some ++ List.replicate (n - ws.length) none) S)
end
end NV

namespace NV
open PySem L2

/-- the written part, the classes' addresses, what the classes are -/
structure Kx where
  K : PySem.W.Frag
  ca : Nat → Addr
  ci : Nat → CInfo
/-- the fields of an instance -/
structure FldOk (ns : List Str) (vs : List V) (fs : List (Str × V)) : Prop where
  le : vs.length ≤ ns.length
  at_ : ∀ (i : Nat) (f : Str), ns[i]? = some f → fs.lookup f = vs[i]?
  no : ∀ f, f ∉ ns → fs.lookup f = none
  few : fs.length ≤ vs.length
def keyD : Key → D
  | .inl i => .int i
  | .inr x => .str x
/-! ### what a tree is in the heap -/
mutual
def Rp (k : Kx) (F : Hp) : D → V → Prop
  | .non, v => v = .non
  | .bl b, v => v = .bl b
  | .int i, v => v = .int i
  | .str s, v => v = .str s
  | .tup l, v => ∃ a vs, v = .ref a ∧ SqT k.K F a vs ∧ Rps k F l vs
  | .lst l, v => ∃ a vs, v = .ref a ∧ F a = some (.lst vs) ∧ Rps k F l vs
  | .dct ks l, v => ∃ a vs, v = .ref a ∧ Rps k F l vs ∧ ((∃ kk : List Key, ks = kk.map keyD ∧ F a = some (.dK (kk.zip vs)) ∧ kk.length = vs.length) ∨ ∃ kk : List (List Key), ks = kk.map (fun q => D.tup (q.map keyD)) ∧ F a = some (.dT (kk.zip vs)) ∧ kk.length = vs.length)
  | .ins c l, v => ∃ a dx fs vs, v = .ref a ∧ F a = some (.ins (k.ca c) dx fs) ∧ FldOk (k.ci c).flds vs fs ∧ Rps k F l vs
  | .scr l, v => ∃ a, v = .ref a ∧ SqL k.K F a (l.map V.int)
def Rps (k : Kx) (F : Hp) : List D → List V → Prop
  | [], vs => vs = []
  | d :: ds, vs => ∃ v r, vs = v :: r ∧ Rp k F d v ∧ Rps k F ds r
end
section
variable {k : Kx} {F F' H H' : Hp}
theorem sqT_mono {K : PySem.W.Frag} (e : Same F F') {a : Addr} {xs : List V} (h : SqT K F a xs) : SqT K F' a xs := by
  rcases h with (h | ⟨o, h⟩) | h
  · exact .inl (.inl (e _ _ h))
  · exact .inl (.inr ⟨o, e _ _ h⟩)
  · exact .inr h
mutual
theorem Rp.mono (e : Same F F') : ∀ (d : D) {v : V}, Rp k F d v → Rp k F' d v
  | .non, v, h => h
  | .bl b, v, h => h
  | .int i, v, h => h
  | .str s, v, h => h
  | .tup l, v, h => by
    unfold Rp at h ⊢
    obtain ⟨a, vs, h1, h2, h3⟩ := h
    exact ⟨a, vs, h1, sqT_mono e h2, Rps.mono e l h3⟩
  | .lst l, v, h => by
    unfold Rp at h ⊢
    obtain ⟨a, vs, h1, h2, h3⟩ := h
    exact ⟨a, vs, h1, e _ _ h2, Rps.mono e l h3⟩
  | .dct ks l, v, h => by
    unfold Rp at h ⊢
    obtain ⟨a, vs, h1, h2, h3⟩ := h
    refine ⟨a, vs, h1, Rps.mono e l h2, ?_⟩
    rcases h3 with ⟨kk, q1, q2, q3⟩ | ⟨kk, q1, q2, q3⟩
    · exact .inl ⟨kk, q1, e _ _ q2, q3⟩
    · exact .inr ⟨kk, q1, e _ _ q2, q3⟩
  | .ins c l, v, h => by
    unfold Rp at h ⊢
    obtain ⟨a, dx, fs, vs, h1, h2, h3, h4⟩ := h
    exact ⟨a, dx, fs, vs, h1, e _ _ h2, h3, Rps.mono e l h4⟩
  | .scr l, v, h => by
    unfold Rp at h ⊢
    obtain ⟨a, h1, h2⟩ := h
    exact ⟨a, h1, e.seq h2⟩
theorem Rps.mono (e : Same F F') : ∀ (l : List D) {vs : List V}, Rps k F l vs → Rps k F' l vs
  | [], vs, h => h
  | d :: ds, vs, h => by
    unfold Rps at h ⊢
    obtain ⟨v, r, h1, h2, h3⟩ := h
    exact ⟨v, r, h1, Rp.mono e d h2, Rps.mono e ds h3⟩
end
theorem Rps.len : ∀ {l : List D} {vs : List V}, Rps k F l vs → vs.length = l.length
  | [], vs, h => by unfold Rps at h; subst h; rfl
  | d :: ds, vs, h => by
    unfold Rps at h
    obtain ⟨v, r, rfl, _, h3⟩ := h
    simp [Rps.len h3]
theorem Rps.nil' : Rps k F [] [] := by unfold Rps; rfl
theorem Rps.cons' {d : D} {v : V} {l : List D} {vs : List V} (h : Rp k F d v) (t : Rps k F l vs) : Rps k F (d :: l) (v :: vs) := by
  unfold Rps
  exact ⟨v, vs, rfl, h, t⟩
theorem Rps.uncons {d : D} {l : List D} {vs : List V} (h : Rps k F (d :: l) vs) : ∃ v r, vs = v :: r ∧ Rp k F d v ∧ Rps k F l r := by
  unfold Rps at h
  exact h
theorem Rps.unnil {vs : List V} (h : Rps k F [] vs) : vs = [] := by unfold Rps at h; exact h
theorem Rp.flat {d : D} {v : V} (h : Rp k F d v) (f : flatD d = true) : v = vOf d ∧ flatV v = true := by
  cases d <;> first | (unfold Rp at h; subst h; exact ⟨rfl, rfl⟩) | (simp [flatD] at f)
theorem Rps.bools : ∀ {l : List D} {vs : List V} {bs : List Bool}, Rps k F l vs → boolsOf l = some bs → vs = bs.map V.bl
  | [], vs, bs, h, e => by
    unfold Rps at h; subst h
    unfold boolsOf at e; cases e; rfl
  | d :: ds, vs, bs, h, e => by
    unfold Rps at h
    obtain ⟨v, r, rfl, h2, h3⟩ := h
    cases d with
    | bl b =>
      unfold boolsOf at e
      simp only [Option.map_eq_some_iff] at e
      obtain ⟨bs', e1, rfl⟩ := e
      unfold Rp at h2
      subst h2
      rw [Rps.bools h3 e1]
      rfl
    | _ => unfold boolsOf at e; cases e
theorem Rps.strs : ∀ {l : List D} {vs : List V} {ss : List Str}, Rps k F l vs → strsOf l = some ss → vs = ss.map V.str
  | [], vs, bs, h, e => by
    unfold Rps at h; subst h
    unfold strsOf at e; cases e; rfl
  | d :: ds, vs, bs, h, e => by
    unfold Rps at h
    obtain ⟨v, r, rfl, h2, h3⟩ := h
    cases d with
    | str b =>
      unfold strsOf at e
      simp only [Option.map_eq_some_iff] at e
      obtain ⟨bs', e1, rfl⟩ := e
      unfold Rp at h2
      subst h2
      rw [Rps.strs h3 e1]
      rfl
    | _ => unfold strsOf at e; cases e

/-! ### values -/
def RpW (k : Kx) (F : Hp) (μ : Nat → Addr) (N : Nat) : W → V → Prop
  | .v d, v => Rp k F d v
  | .r n, v => v = .ref (μ n) ∧ n < N
def RpWs (k : Kx) (F : Hp) (μ : Nat → Addr) (N : Nat) : List W → List V → Prop
  | [], vs => vs = []
  | w :: ws, vs => ∃ v r, vs = v :: r ∧ RpW k F μ N w v ∧ RpWs k F μ N ws r
variable {μ μ' : Nat → Addr} {N N' : Nat}
theorem RpW.mono (e : Same F F') (m : ∀ n, n < N → μ' n = μ n) (l : N ≤ N') : ∀ {w : W} {v : V}, RpW k F μ N w v → RpW k F' μ' N' w v
  | .v d, v, h => Rp.mono e d h
  | .r n, v, h => ⟨by rw [m n h.2]; exact h.1, Nat.lt_of_lt_of_le h.2 l⟩
theorem RpWs.mono (e : Same F F') (m : ∀ n, n < N → μ' n = μ n) (l : N ≤ N') : ∀ {w : List W} {v : List V}, RpWs k F μ N w v → RpWs k F' μ' N' w v
  | [], v, h => h
  | w :: ws, v, h => by
    obtain ⟨u, r, h1, h2, h3⟩ := h
    exact ⟨u, r, h1, h2.mono e m l, RpWs.mono e m l h3⟩
theorem RpWs.len : ∀ {l : List W} {vs : List V}, RpWs k F μ N l vs → vs.length = l.length
  | [], vs, h => by rw [show vs = [] from h]; rfl
  | d :: ds, vs, h => by
    obtain ⟨v, r, rfl, _, h3⟩ := h
    simp [RpWs.len h3]
theorem RpWs.nil' : RpWs k F μ N [] [] := rfl
theorem RpWs.cons' {d : W} {v : V} {l : List W} {vs : List V} (h : RpW k F μ N d v) (t : RpWs k F μ N l vs) : RpWs k F μ N (d :: l) (v :: vs) := ⟨v, vs, rfl, h, t⟩
theorem RpWs.app : ∀ {l m : List W} {vs us : List V}, RpWs k F μ N l vs → RpWs k F μ N m us → RpWs k F μ N (l ++ m) (vs ++ us)
  | [], m, vs, us, h, h' => by rw [show vs = [] from h]; exact h'
  | d :: ds, m, vs, us, h, h' => by
    obtain ⟨v, r, rfl, h2, h3⟩ := h
    exact ⟨v, r ++ us, rfl, h2, RpWs.app h3 h'⟩
theorem RpWs.one {d : W} {v : V} (h : RpW k F μ N d v) : RpWs k F μ N [d] [v] := ⟨v, [], rfl, h, rfl⟩
theorem RpWs.get : ∀ {l : List W} {vs : List V} {i : Nat} {d : W}, RpWs k F μ N l vs → l[i]? = some d → ∃ v, vs[i]? = some v ∧ RpW k F μ N d v
  | [], vs, i, d, h, e => by simp at e
  | x :: xs, vs, 0, d, h, e => by
    obtain ⟨v, r, rfl, h2, h3⟩ := h
    simp at e; subst e
    exact ⟨v, rfl, h2⟩
  | x :: xs, vs, i + 1, d, h, e => by
    obtain ⟨v, r, rfl, h2, h3⟩ := h
    simp at e
    obtain ⟨u, h4, h5⟩ := RpWs.get (i := i) h3 e
    exact ⟨u, by simpa using h4, h5⟩
theorem RpWs.take : ∀ {l : List W} {vs : List V} (n : Nat), RpWs k F μ N l vs → RpWs k F μ N (l.take n) (vs.take n)
  | l, vs, 0, h => by simp; exact RpWs.nil'
  | [], vs, n + 1, h => by rw [show vs = [] from h]; simp; exact RpWs.nil'
  | d :: ds, vs, n + 1, h => by
    obtain ⟨v, r, rfl, h2, h3⟩ := h
    exact RpWs.cons' h2 (RpWs.take n h3)
theorem RpWs.drop : ∀ {l : List W} {vs : List V} (n : Nat), RpWs k F μ N l vs → RpWs k F μ N (l.drop n) (vs.drop n)
  | l, vs, 0, h => by simpa using h
  | [], vs, n + 1, h => by rw [show vs = [] from h]; simp; exact RpWs.nil'
  | d :: ds, vs, n + 1, h => by
    obtain ⟨v, r, rfl, h2, h3⟩ := h
    exact RpWs.drop n h3
theorem RpWs.set {d : W} {v : V} (hd : RpW k F μ N d v) : ∀ {l : List W} {vs : List V} (n : Nat), RpWs k F μ N l vs → RpWs k F μ N (l.set n d) (vs.set n v)
  | [], vs, n, h => by rw [show vs = [] from h]; simp; exact RpWs.nil'
  | x :: xs, vs, 0, h => by
    obtain ⟨u, r, rfl, h2, h3⟩ := h
    exact RpWs.cons' hd h3
  | x :: xs, vs, n + 1, h => by
    obtain ⟨u, r, rfl, h2, h3⟩ := h
    exact RpWs.cons' h2 (RpWs.set hd n h3)
theorem RpWs.rep {l : List W} {vs : List V} (h : RpWs k F μ N l vs) : ∀ n : Nat, RpWs k F μ N (List.replicate n l).flatten (List.replicate n vs).flatten
  | 0 => by simp; exact RpWs.nil'
  | n + 1 => by
    simp only [List.replicate_succ, List.flatten_cons]
    exact h.app (RpWs.rep h n)
theorem RpWs.rev : ∀ {l : List W} {vs : List V}, RpWs k F μ N l vs → RpWs k F μ N l.reverse vs.reverse
  | [], vs, h => by rw [show vs = [] from h]; exact RpWs.nil'
  | d :: ds, vs, h => by
    obtain ⟨v, r, rfl, h2, h3⟩ := h
    simp only [List.reverse_cons]
    exact (RpWs.rev h3).app (.one h2)
theorem RpWs.erase : ∀ {l : List W} {vs : List V} (n : Nat), RpWs k F μ N l vs → RpWs k F μ N (l.eraseIdx n) (vs.eraseIdx n)
  | [], vs, n, h => by rw [show vs = [] from h]; exact RpWs.nil'
  | d :: ds, vs, 0, h => by
    obtain ⟨v, r, rfl, h2, h3⟩ := h
    exact h3
  | d :: ds, vs, n + 1, h => by
    obtain ⟨v, r, rfl, h2, h3⟩ := h
    exact RpWs.cons' h2 (RpWs.erase n h3)
theorem Rps.ws : ∀ {l : List D} {vs : List V}, Rps k F l vs → RpWs k F μ N (l.map W.v) vs
  | [], vs, h => h.unnil
  | d :: ds, vs, h => by
    obtain ⟨v, r, rfl, h2, h3⟩ := h.uncons
    exact RpWs.cons' h2 (Rps.ws h3)
theorem RpWs.unV : ∀ {l : List W} {vs : List V} {ds : List D}, RpWs k F μ N l vs → NV.unV l = some ds → Rps k F ds vs
  | [], vs, ds, h, e => by
    rw [show vs = [] from h]
    simp only [NV.unV] at e
    cases e
    exact Rps.nil'
  | .v d :: l, vs, ds, h, e => by
    obtain ⟨v, r, rfl, h2, h3⟩ := h
    simp only [NV.unV, Option.map_eq_some_iff] at e
    obtain ⟨m, e1, rfl⟩ := e
    exact Rps.cons' h2 (RpWs.unV h3 e1)
  | .r _ :: l, vs, ds, h, e => by
    simp only [NV.unV] at e
    cases e
theorem unV_map : ∀ {l : List W} {ds : List D}, NV.unV l = some ds → l = ds.map W.v
  | [], ds, e => by simp only [NV.unV] at e; cases e; rfl
  | .v d :: l, ds, e => by
    simp only [NV.unV, Option.map_eq_some_iff] at e
    obtain ⟨m, e1, rfl⟩ := e
    rw [unV_map e1]
    rfl
  | .r _ :: l, ds, e => by simp only [NV.unV] at e; cases e
end

/-! ### the store -/
def CellOk (k : Kx) (F H : Hp) (μ : Nat → Addr) (N : Nat) (a : Addr) : Cell → Prop
  | .dead => True
  | .lst l => ∃ vs, H a = some (.lst vs) ∧ F a = none ∧ RpWs k F μ N l vs
  | .tup l => ∃ vs, H a = some (.tup vs) ∧ F a = none ∧ RpWs k F μ N l vs
  | .dct ks l => ∃ vs, F a = none ∧ RpWs k F μ N l vs ∧ ((∃ kk : List Key, ks = kk.map keyD ∧ H a = some (.dK (kk.zip vs)) ∧ kk.length = vs.length) ∨ ∃ kk : List (List Key), ks = kk.map (fun q => D.tup (q.map keyD)) ∧ H a = some (.dT (kk.zip vs)) ∧ kk.length = vs.length)
  | .ins c l => ∃ dx fs vs, H a = some (.ins (k.ca c) dx fs) ∧ F a = none ∧ FldOk (k.ci c).flds vs fs ∧ RpWs k F μ N l vs
structure StoOk (k : Kx) (F H : Hp) (μ : Nat → Addr) (S : Sto) : Prop where
  sub : Same F H
  cell : ∀ n c, S[n]? = some c → CellOk k F H μ S.length (μ n) c
  inj : ∀ n m c c', S[n]? = some c → S[m]? = some c' → c ≠ .dead → c' ≠ .dead → μ n = μ m → n = m
/-- the addresses that may be written -/
def Wr (μ : Nat → Addr) (S : Sto) (a : Addr) : Prop := ∃ n c, S[n]? = some c ∧ c ≠ .dead ∧ μ n = a
structure Gr (F H : Hp) (μ : Nat → Addr) (S : Sto) (F' H' : Hp) (μ' : Nat → Addr) (S' : Sto) : Prop where
  dom : ∀ a, H' a = none → H a = none
  h : ∀ a o, H a = some o → ¬ Wr μ S a → H' a = some o
  f : Same F F'
  new : ∀ a o, F' a = some o → F a = some o ∨ H a = none ∨ Wr μ S a
  len : S.length ≤ S'.length
  mu : ∀ n, n < S.length → μ' n = μ n
  dd : ∀ n : Nat, S[n]? = some .dead → S'[n]? = some .dead
  fresh : ∀ n c, S.length ≤ n → S'[n]? = some c → c ≠ .dead → H (μ' n) = none
section
variable {k : Kx} {F F' F2 H H' H2 : Hp} {μ μ' μ2 : Nat → Addr} {S S' S2 : Sto}
theorem CellOk.some {N : Nat} {a : Addr} {c : Cell} (h : CellOk k F H μ N a c) (d : c ≠ .dead) : ∃ o, H a = some o := by
  cases c with
  | dead => exact absurd rfl d
  | lst l => obtain ⟨vs, h, _⟩ := h; exact ⟨_, h⟩
  | tup l => obtain ⟨vs, h, _⟩ := h; exact ⟨_, h⟩
  | dct ks l => obtain ⟨vs, _, _, ⟨kk, _, h, _⟩ | ⟨kk, _, h, _⟩⟩ := h <;> exact ⟨_, h⟩
  | ins c l => obtain ⟨dx, fs, vs, h, _⟩ := h; exact ⟨_, h⟩
theorem CellOk.fnone {N : Nat} {a : Addr} {c : Cell} (h : CellOk k F H μ N a c) (d : c ≠ .dead) : F a = none := by
  cases c with
  | dead => exact absurd rfl d
  | lst l => obtain ⟨vs, _, h, _⟩ := h; exact h
  | tup l => obtain ⟨vs, _, h, _⟩ := h; exact h
  | dct ks l => obtain ⟨vs, h, _⟩ := h; exact h
  | ins c l => obtain ⟨dx, fs, vs, _, h, _⟩ := h; exact h
theorem CellOk.mono {N N' : Nat} {a : Addr} {c : Cell} (h : CellOk k F H μ N a c) (eH : c ≠ .dead → H' a = H a) (eF : Same F F') (fn : c ≠ .dead → F' a = none) (m : ∀ n, n < N → μ' n = μ n) (l : N ≤ N') : CellOk k F' H' μ' N' a c := by
  cases c with
  | dead => trivial
  | lst x => obtain ⟨vs, h1, h2, h3⟩ := h; exact ⟨vs, by rw [eH (by simp)]; exact h1, fn (by simp), h3.mono eF m l⟩
  | tup x => obtain ⟨vs, h1, h2, h3⟩ := h; exact ⟨vs, by rw [eH (by simp)]; exact h1, fn (by simp), h3.mono eF m l⟩
  | dct ks x =>
    obtain ⟨vs, h1, h2, h3⟩ := h
    refine ⟨vs, fn (by simp), h2.mono eF m l, ?_⟩
    rw [eH (by simp)]; exact h3
  | ins c x => obtain ⟨dx, fs, vs, h1, h2, h3, h4⟩ := h; exact ⟨dx, fs, vs, by rw [eH (by simp)]; exact h1, fn (by simp), h3, h4.mono eF m l⟩
theorem Wr.lt {a : Addr} (h : Wr μ S a) : ∃ n, n < S.length ∧ μ n = a := by
  obtain ⟨n, c, h1, _, h2⟩ := h
  exact ⟨n, (List.getElem?_eq_some_iff.mp h1).1, h2⟩
theorem StoOk.mt (s : StoOk k F H μ S) {a : Addr} (h : Wr μ S a) : F a = none ∧ ∃ o, H a = some o := by
  obtain ⟨n, c, h1, h2, rfl⟩ := h
  exact ⟨(s.cell n c h1).fnone h2, (s.cell n c h1).some h2⟩
theorem Gr.refl : Gr F H μ S F H μ S :=
  ⟨fun _ h => h, fun _ _ h _ => h, Same.refl _, fun _ _ h => .inl h, Nat.le_refl _, fun _ _ => rfl, fun _ h => h, fun n c h e => by
    rw [List.getElem?_eq_none_iff.mpr h] at e; cases e⟩
/-- a written address at a later time was one earlier, or is new -/
theorem Gr.back (g : Gr F H μ S F' H' μ' S') {a : Addr} (h : Wr μ' S' a) : Wr μ S a ∨ H a = none := by
  obtain ⟨n, c, h1, h2, rfl⟩ := h
  by_cases hn : n < S.length
  · left
    refine ⟨n, S[n], List.getElem?_eq_getElem hn, fun e => ?_, (g.mu n hn).symm⟩
    have := g.dd n (by rw [List.getElem?_eq_getElem hn, e])
    rw [h1] at this; cases this
    exact h2 rfl
  · exact .inr (g.fresh n c (by omega) h1 h2)
theorem Gr.trans (g : Gr F H μ S F' H' μ' S') (g2 : Gr F' H' μ' S' F2 H2 μ2 S2) : Gr F H μ S F2 H2 μ2 S2 := by
  refine ⟨fun a h => g.dom a (g2.dom a h), fun a o h nm => g2.h a o (g.h a o h nm) fun m => ?_, g.f.trans g2.f, fun a o h => ?_, Nat.le_trans g.len g2.len, fun n hn => ?_, fun n h => g2.dd n (g.dd n h), fun n c hn h d => ?_⟩
  · rcases g.back m with m | m
    · exact nm m
    · rw [h] at m; cases m
  · rcases g2.new a o h with h | h | h
    · exact g.new a o h
    · exact .inr (.inl (g.dom a h))
    · rcases g.back h with h | h
      · exact .inr (.inr h)
      · exact .inr (.inl h)
  · rw [g2.mu n (Nat.lt_of_lt_of_le hn g.len)]; exact g.mu n hn
  · by_cases hs : n < S'.length
    · rw [g2.mu n hs]
      refine g.fresh n S'[n] hn (List.getElem?_eq_getElem hs) fun e => ?_
      have := g2.dd n (by rw [List.getElem?_eq_getElem hs, e])
      rw [h] at this; cases this
      exact d rfl
    · exact g.dom _ (g2.fresh n c (by omega) h d)
/-- nothing was written: only new things -/
theorem Gr.pure_same (g : Gr F H μ [] F' H' μ' S') : Same H H' := fun a o h => g.h a o h fun m => by
  obtain ⟨n, hn, _⟩ := m.lt
  simp at hn
/-- the store stays where a call without it ran -/
theorem Gr.over (g : Gr F H μ [] F' H' μ' S') (fh : Same F' H') (s : StoOk k F H μ2 S) : Gr F H μ2 S F' H' μ2 S ∧ StoOk k F' H' μ2 S := by
  have e := g.pure_same
  have fn : ∀ n c, S[n]? = some c → c ≠ .dead → F' (μ2 n) = none := fun n c h d => by
    cases q : F' (μ2 n) with
    | none => rfl
    | some o =>
      rcases g.new _ _ q with z | z | z
      · rw [(s.cell n c h).fnone d] at z; cases z
      · obtain ⟨o', h'⟩ := (s.cell n c h).some d
        rw [z] at h'; cases h'
      · obtain ⟨m, hm, _⟩ := z.lt
        simp at hm
  refine ⟨⟨g.dom, fun a o h _ => e a o h, g.f, fun a o h => ?_, Nat.le_refl _, fun _ _ => rfl, fun _ h => h, fun n c hn h => ?_⟩, ⟨fh, fun n c h => ?_, s.inj⟩⟩
  · rcases g.new a o h with h | h | h
    · exact .inl h
    · exact .inr (.inl h)
    · obtain ⟨m, hm, _⟩ := h.lt
      simp at hm
  · rw [List.getElem?_eq_none_iff.mpr hn] at h; cases h
  · refine (s.cell n c h).mono (fun d => ?_) g.f (fn n c h) (fun _ _ => rfl) (Nat.le_refl _)
    obtain ⟨o, ho⟩ := (s.cell n c h).some d
    rw [ho, e _ _ ho]
end
end NV

namespace NV
open PySem L2

/-- what stands behind an expression: its value, the store -/
def PoW (k : Kx) (F H : Hp) (μ : Nat → Addr) (S : Sto) (w : W) (S' : Sto) : VK := fun v H' => ∃ F' μ', Gr F H μ S F' H' μ' S' ∧ StoOk k F' H' μ' S' ∧ RpW k F' μ' S'.length w v
def PoB (k : Kx) (F H : Hp) (μ : Nat → Addr) (S : Sto) (b : Bool) (S' : Sto) : Bool → Hp → Prop := fun z H' => z = b ∧ ∃ F' μ', Gr F H μ S F' H' μ' S' ∧ StoOk k F' H' μ' S'
def PoWs (k : Kx) (F H : Hp) (μ : Nat → Addr) (S : Sto) (ws : List W) (S' : Sto) : List V → Hp → Prop := fun vs H' => ∃ F' μ', Gr F H μ S F' H' μ' S' ∧ StoOk k F' H' μ' S' ∧ RpWs k F' μ' S'.length ws vs
section
variable {k : Kx} {F F' H H' F1 H1 : Hp} {μ μ' μ1 : Nat → Addr} {S S' S1 : Sto}
theorem PoW.back {w : W} {v : V} (g : Gr F H μ S F1 H1 μ1 S1) (h : PoW k F1 H1 μ1 S1 w S' v H') : PoW k F H μ S w S' v H' := by
  obtain ⟨F', μ', g', s, r⟩ := h
  exact ⟨F', μ', g.trans g', s, r⟩
theorem PoWs.back {w : List W} {v : List V} (g : Gr F H μ S F1 H1 μ1 S1) (h : PoWs k F1 H1 μ1 S1 w S' v H') : PoWs k F H μ S w S' v H' := by
  obtain ⟨F', μ', g', s, r⟩ := h
  exact ⟨F', μ', g.trans g', s, r⟩
theorem PoB.back {b z : Bool} (g : Gr F H μ S F1 H1 μ1 S1) (h : PoB k F1 H1 μ1 S1 b S' z H') : PoB k F H μ S b S' z H' := by
  obtain ⟨e, F', μ', g', s⟩ := h
  exact ⟨e, F', μ', g.trans g', s⟩
theorem PoW.v (s : StoOk k F H μ S) {d : D} {v : V} (h : Rp k F d v) : PoW k F H μ S (.v d) S v H := ⟨F, μ, .refl, s, h⟩
theorem PoW.w (s : StoOk k F H μ S) {w : W} {v : V} (h : RpW k F μ S.length w v) : PoW k F H μ S w S v H := ⟨F, μ, .refl, s, h⟩
theorem PoW.int (s : StoOk k F H μ S) {i : Int} : PoW k F H μ S (.v (.int i)) S (.int i) H := .v s (by unfold Rp; rfl)
theorem PoW.bl (s : StoOk k F H μ S) {i : Bool} : PoW k F H μ S (.v (.bl i)) S (.bl i) H := .v s (by unfold Rp; rfl)
theorem PoW.str (s : StoOk k F H μ S) {i : Str} : PoW k F H μ S (.v (.str i)) S (.str i) H := .v s (by unfold Rp; rfl)
theorem PoW.non (s : StoOk k F H μ S) : PoW k F H μ S (.v .non) S .non H := .v s (by unfold Rp; rfl)
theorem same_upd {p : Addr} {o : HO} (fp : F p = none) : Same F (upd F p o) := fun b u q => by rw [upd_ne (ne_of_none q fp)]; exact q
/-- a new settled thing -/
theorem Gr.newF (s : StoOk k F H μ S) {p : Addr} (hp : H p = none) (o : HO) : Gr F H μ S (upd F p o) (upd H p o) μ S ∧ StoOk k (upd F p o) (upd H p o) μ S := by
  have fp : F p = none := s.sub.free hp
  have sF : Same F (upd F p o) := same_upd fp
  have np : ∀ n c, S[n]? = some c → c ≠ .dead → μ n ≠ p := fun n c h d e => by
    obtain ⟨o', h'⟩ := (s.cell n c h).some d
    rw [e, hp] at h'; cases h'
  refine ⟨⟨fun a h => ?_, fun a u h _ => ?_, sF, fun a u h => ?_, Nat.le_refl _, fun _ _ => rfl, fun _ h => h, fun n c hn h => ?_⟩, ⟨fun b u q => ?_, fun n c h => ?_, s.inj⟩⟩
  · by_cases e : a = p
    · subst e; exact hp
    · rw [upd_ne e] at h; exact h
  · rw [upd_ne (ne_of_none h hp)]; exact h
  · by_cases e : a = p
    · subst e; exact .inr (.inl hp)
    · rw [upd_ne e] at h; exact .inl h
  · rw [List.getElem?_eq_none_iff.mpr hn] at h; cases h
  · by_cases e : b = p
    · subst e; rw [upd_same] at q ⊢; exact q
    · rw [upd_ne e] at q ⊢; exact s.sub _ _ q
  · refine (s.cell n c h).mono (fun d => upd_ne (np n c h d)) sF (fun d => ?_) (fun _ _ => rfl) (Nat.le_refl _)
    rw [upd_ne (np n c h d)]; exact (s.cell n c h).fnone d
theorem PoW.newT (s : StoOk k F H μ S) {l : List D} {vs : List V} (h : Rps k F l vs) (p : Addr) (hp : H p = none) : PoW k F H μ S (.v (.tup l)) S (.ref p) (upd H p (.tup vs)) := by
  obtain ⟨g, s'⟩ := Gr.newF s hp (.tup vs)
  refine ⟨_, _, g, s', ?_⟩
  show Rp k _ (.tup l) _
  unfold Rp
  exact ⟨p, vs, rfl, .of upd_same, Rps.mono g.f _ h⟩
/-- a new cell -/
def mu1 (μ : Nat → Addr) (n : Nat) (p : Addr) : Nat → Addr := fun m => if m = n then p else μ m
theorem mu1_same {n : Nat} {p : Addr} : mu1 μ n p n = p := if_pos rfl
theorem mu1_ne {n m : Nat} {p : Addr} (h : m ≠ n) : mu1 μ n p m = μ m := if_neg h
theorem Gr.newC (s : StoOk k F H μ S) {p : Addr} (hp : H p = none) (o : HO) (c : Cell) (hc : CellOk k F (upd H p o) (mu1 μ S.length p) (S.length + 1) p c) :
    Gr F H μ S F (upd H p o) (mu1 μ S.length p) (S ++ [c]) ∧ StoOk k F (upd H p o) (mu1 μ S.length p) (S ++ [c]) := by
  have np : ∀ n c, S[n]? = some c → c ≠ .dead → μ n ≠ p := fun n c h d e => by
    obtain ⟨o', h'⟩ := (s.cell n c h).some d
    rw [e, hp] at h'; cases h'
  have hm : ∀ n, n < S.length → mu1 μ S.length p n = μ n := fun n h => mu1_ne (by omega)
  have key : ∀ n c', (S ++ [c])[n]? = some c' → (n < S.length ∧ S[n]? = some c') ∨ (n = S.length ∧ c' = c) := fun n c' h => by
    by_cases hn : n < S.length
    · rw [List.getElem?_append_left hn] at h; exact .inl ⟨hn, h⟩
    · have : n < (S ++ [c]).length := (List.getElem?_eq_some_iff.mp h).1
      simp at this
      have e : n = S.length := by omega
      subst e
      simp at h
      exact .inr ⟨rfl, h.symm⟩
  refine ⟨⟨fun a h => ?_, fun a u h _ => ?_, Same.refl _, fun a u h => .inl h, by simp, hm, fun n h => ?_, fun n c' hn h d => ?_⟩, ⟨fun b u q => ?_, fun n c' h => ?_, fun n m c1 c2 h1 h2 d1 d2 e => ?_⟩⟩
  · by_cases e : a = p
    · subst e; exact hp
    · rw [upd_ne e] at h; exact h
  · rw [upd_ne (ne_of_none h hp)]; exact h
  · rw [List.getElem?_append_left (List.getElem?_eq_some_iff.mp h).1]; exact h
  · rcases key n c' h with ⟨q, _⟩ | ⟨rfl, rfl⟩
    · omega
    · rw [mu1_same]; exact hp
  · rw [upd_ne (ne_of_none (s.sub _ _ q) hp)]; exact s.sub _ _ q
  · rcases key n c' h with ⟨q, h⟩ | ⟨rfl, rfl⟩
    · rw [hm n q]
      refine (s.cell n c' h).mono (fun d => upd_ne (np n c' h d)) (Same.refl _) (fun d => (s.cell n c' h).fnone d) hm (by simp)
    · rw [mu1_same, List.length_append]; exact hc
  · rcases key n c1 h1 with ⟨q1, k1⟩ | ⟨e1, _⟩
    · rcases key m c2 h2 with ⟨q2, k2⟩ | ⟨e2, _⟩
      · rw [hm n q1, hm m q2] at e
        exact s.inj n m c1 c2 k1 k2 d1 d2 e
      · rw [hm n q1, e2, mu1_same] at e
        exact absurd e (np n c1 k1 d1)
    · rcases key m c2 h2 with ⟨q2, k2⟩ | ⟨e2, _⟩
      · rw [hm m q2, e1, mu1_same] at e
        exact absurd e.symm (np m c2 k2 d2)
      · rw [e1, e2]
theorem mu1_mono {n : Nat} {p : Addr} {l : List W} {vs : List V} (h : RpWs k F μ n l vs) : RpWs k F (mu1 μ n p) (n + 1) l vs := h.mono (Same.refl _) (fun m q => mu1_ne (by omega)) (by omega)
theorem PoW.newL (s : StoOk k F H μ S) {l : List W} {vs : List V} (h : RpWs k F μ S.length l vs) (p : Addr) (hp : H p = none) : PoW k F H μ S (.r S.length) (S ++ [.lst l]) (.ref p) (upd H p (.lst vs)) := by
  obtain ⟨g, s'⟩ := Gr.newC s hp (.lst vs) (.lst l) ⟨vs, upd_same, s.sub.free hp, mu1_mono h⟩
  exact ⟨_, _, g, s', by rw [mu1_same], by simp⟩
theorem PoW.newTC (s : StoOk k F H μ S) {l : List W} {vs : List V} (h : RpWs k F μ S.length l vs) (p : Addr) (hp : H p = none) : PoW k F H μ S (.r S.length) (S ++ [.tup l]) (.ref p) (upd H p (.tup vs)) := by
  obtain ⟨g, s'⟩ := Gr.newC s hp (.tup vs) (.tup l) ⟨vs, upd_same, s.sub.free hp, mu1_mono h⟩
  exact ⟨_, _, g, s', by rw [mu1_same], by simp⟩
/-- a cell is written -/
theorem Gr.wr (s : StoOk k F H μ S) {n : Nat} {c c' : Cell} (hn : S[n]? = some c) (d : c ≠ .dead) (d' : c' ≠ .dead) (o : HO) (hc : CellOk k F (upd H (μ n) o) μ S.length (μ n) c') :
    Gr F H μ S F (upd H (μ n) o) μ (S.set n c') ∧ StoOk k F (upd H (μ n) o) μ (S.set n c') := by
  have hl : n < S.length := (List.getElem?_eq_some_iff.mp hn).1
  have key : ∀ m c1, (S.set n c')[m]? = some c1 → (m = n ∧ c1 = c') ∨ (m ≠ n ∧ S[m]? = some c1) := fun m c1 h => by
    by_cases e : n = m
    · subst e; rw [List.getElem?_set_self hl] at h; cases h; exact .inl ⟨rfl, rfl⟩
    · rw [List.getElem?_set_ne e] at h; exact .inr ⟨fun z => e z.symm, h⟩
  have np : ∀ m c1, m ≠ n → S[m]? = some c1 → c1 ≠ .dead → μ m ≠ μ n := fun m c1 ne h d1 e => ne (s.inj m n c1 c h hn d1 d e)
  refine ⟨⟨fun a h => ?_, fun a u h nm => ?_, Same.refl _, fun a u h => .inl h, by simp, fun _ _ => rfl, fun m h => ?_, fun m c1 hm h => ?_⟩, ⟨fun b u q => ?_, fun m c1 h => ?_, fun m1 m2 c1 c2 h1 h2 d1 d2 e => ?_⟩⟩
  · by_cases e : a = μ n
    · subst e; rw [upd_same] at h; cases h
    · rw [upd_ne e] at h; exact h
  · rw [upd_ne (fun e => nm ⟨n, c, hn, d, e.symm⟩)]; exact h
  · have ne : n ≠ m := fun e => by subst e; rw [hn] at h; cases h; exact d rfl
    rw [List.getElem?_set_ne ne]; exact h
  · rw [List.getElem?_eq_none_iff.mpr (by simpa using hm)] at h; cases h
  · have : b ≠ μ n := fun e => by
      subst e
      rw [(s.cell n c hn).fnone d] at q; cases q
    rw [upd_ne this]; exact s.sub _ _ q
  · rw [List.length_set]
    rcases key m c1 h with ⟨rfl, rfl⟩ | ⟨ne, h⟩
    · exact hc
    · exact (s.cell m c1 h).mono (fun d1 => upd_ne (np m c1 ne h d1)) (Same.refl _) (fun d1 => (s.cell m c1 h).fnone d1) (fun _ _ => rfl) (Nat.le_refl _)
  · have fix : ∀ (m : Nat) (c1 : Cell), (S.set n c')[m]? = some c1 → c1 ≠ .dead → ∃ c0 : Cell, S[m]? = some c0 ∧ c0 ≠ .dead := fun m c1 h d1 => by
      rcases key m c1 h with ⟨rfl, rfl⟩ | ⟨_, h⟩
      · exact ⟨c, hn, d⟩
      · exact ⟨c1, h, d1⟩
    obtain ⟨x1, y1, z1⟩ := fix m1 c1 h1 d1
    obtain ⟨x2, y2, z2⟩ := fix m2 c2 h2 d2
    exact s.inj m1 m2 x1 x2 y1 y2 z1 z2 e
/-! ### the store is cut -/
theorem below_lst {n : Nat} {l : List W} (h : l.all (refB n) = true) {N : Nat} {vs : List V} (r : RpWs k F μ N l vs) : RpWs k F μ n l vs := by
  induction l generalizing vs with
  | nil => exact r
  | cons w l ih =>
    obtain ⟨v, t, rfl, r1, r2⟩ := r
    simp only [List.all_cons, Bool.and_eq_true] at h
    refine ⟨v, t, rfl, ?_, ih h.2 r2⟩
    cases w with
    | v d => exact r1
    | r m => exact ⟨r1.1, by simpa [refB] using h.1⟩
theorem CellOk.cut {n N : Nat} {a : Addr} {c : Cell} (h : c.below n = true) (r : CellOk k F H μ N a c) : CellOk k F H μ n a c := by
  cases c with
  | dead => trivial
  | lst l => obtain ⟨vs, h1, h2, h3⟩ := r; exact ⟨vs, h1, h2, below_lst h h3⟩
  | tup l => obtain ⟨vs, h1, h2, h3⟩ := r; exact ⟨vs, h1, h2, below_lst h h3⟩
  | dct ks l => obtain ⟨vs, h1, h2, h3⟩ := r; exact ⟨vs, h1, below_lst h h2, h3⟩
  | ins c l => obtain ⟨dx, fs, vs, h1, h2, h3, h4⟩ := r; exact ⟨dx, fs, vs, h1, h2, h3, below_lst h h4⟩
theorem cut_some {n : Nat} (h : NV.cut n S = some S1) : n ≤ S.length ∧ S1 = S.take n ∧ S1.length = n ∧ ∀ m c, S1[m]? = some c → S[m]? = some c ∧ c.below n = true ∧ m < n := by
  unfold NV.cut at h
  split at h
  · rename_i hc
    cases h
    refine ⟨hc.1, rfl, by rw [List.length_take]; omega, fun m c e => ?_⟩
    have hm : m < n := by
      have := (List.getElem?_eq_some_iff.mp e).1
      rw [List.length_take] at this; omega
    have hb := List.all_eq_true.mp hc.2 c (List.mem_of_getElem? e)
    rw [List.getElem?_take_of_lt hm] at e
    exact ⟨e, hb, hm⟩
  · cases h
theorem StoOk.cut {n : Nat} (s : StoOk k F H μ S) (h : NV.cut n S = some S1) : StoOk k F H μ S1 := by
  obtain ⟨h1, _, h2, h3⟩ := cut_some h
  refine ⟨s.sub, fun m c e => ?_, fun m m' c c' e e' => s.inj m m' c c' (h3 m c e).1 (h3 m' c' e').1⟩
  obtain ⟨q1, q2, q3⟩ := h3 m c e
  rw [h2]
  exact (s.cell m c q1).cut q2
theorem Gr.cut {n : Nat} (g : Gr F H μ S F' H' μ' S') (hn : n = S.length) (h : NV.cut n S' = some S1) : Gr F H μ S F' H' μ' S1 := by
  obtain ⟨h1, _, h2, h3⟩ := cut_some h
  refine ⟨g.dom, g.h, g.f, g.new, by omega, g.mu, fun m e => ?_, fun m c hm e => ?_⟩
  · have hm : m < S.length := (List.getElem?_eq_some_iff.mp e).1
    have q := g.dd m e
    have : m < S1.length := by omega
    have e1 : S1[m]? = some S1[m] := List.getElem?_eq_getElem this
    have := (h3 m _ e1).1
    rw [q] at this
    rw [e1]; exact this.symm
  · have := (List.getElem?_eq_some_iff.mp e).1
    omega
end

/-! ### slots -/
structure RelG (k : Kx) (F : Hp) (μ : Nat → Addr) (N : Nat) (Γ : Env') (σ : St) : Prop where
  len : Γ.length = σ.length
  at_ : ∀ (i : Nat) (w : W), Γ[i]? = some (some w) → ∃ v, σ[i]? = some (some v) ∧ RpW k F μ N w v
section
variable {k : Kx} {F F' H H' : Hp} {μ μ' : Nat → Addr} {S S' : Sto} {Γ : Env'} {σ : St} {N N' : Nat}
theorem RelG.mono (r : RelG k F μ N Γ σ) (e : Same F F') (m : ∀ n, n < N → μ' n = μ n) (l : N ≤ N') : RelG k F' μ' N' Γ σ :=
  ⟨r.len, fun i w h => let ⟨v, h1, h2⟩ := r.at_ i w h; ⟨v, h1, h2.mono e m l⟩⟩
theorem RelG.gr (r : RelG k F μ S.length Γ σ) (g : Gr F H μ S F' H' μ' S') : RelG k F' μ' S'.length Γ σ := r.mono g.f g.mu g.len
theorem RpW.gr {w : W} {v : V} (r : RpW k F μ S.length w v) (g : Gr F H μ S F' H' μ' S') : RpW k F' μ' S'.length w v := r.mono g.f g.mu g.len
theorem RpWs.gr {w : List W} {v : List V} (r : RpWs k F μ S.length w v) (g : Gr F H μ S F' H' μ' S') : RpWs k F' μ' S'.length w v := r.mono g.f g.mu g.len
theorem get_set {α : Type} {l : List α} {i j : Nat} {a b : α} (h : (l.set i a)[j]? = some b) : (i = j ∧ b = a ∧ i < l.length) ∨ (i ≠ j ∧ l[j]? = some b) := by
  by_cases e : i = j
  · subst e
    by_cases hi : i < l.length
    · rw [List.getElem?_set_self hi] at h; cases h; exact .inl ⟨rfl, rfl, hi⟩
    · rw [List.set_eq_of_length_le (by omega)] at h
      exact absurd (List.getElem?_eq_some_iff.mp h).1 (by omega)
  · rw [List.getElem?_set_ne e] at h; exact .inr ⟨e, h⟩
theorem RelG.set (r : RelG k F μ N Γ σ) {i : Nat} {w : W} {v : V} (h : RpW k F μ N w v) : RelG k F μ N (Γ.set i (some w)) (σ.set i (some v)) := by
  refine ⟨by simp [r.len], fun j u e => ?_⟩
  rcases get_set e with ⟨rfl, e, hi⟩ | ⟨ne, e⟩
  · cases e
    exact ⟨v, List.getElem?_set_self (by rw [← r.len]; exact hi), h⟩
  · obtain ⟨v', h1, h2⟩ := r.at_ j u e
    exact ⟨v', by rw [List.getElem?_set_ne ne]; exact h1, h2⟩
theorem RelG.unset (r : RelG k F μ N Γ σ) {i : Nat} (o : Option V) : RelG k F μ N (Γ.set i none) (σ.set i o) := by
  refine ⟨by simp [r.len], fun j u e => ?_⟩
  rcases get_set e with ⟨rfl, e, hi⟩ | ⟨ne, e⟩
  · cases e
  · obtain ⟨v', h1, h2⟩ := r.at_ j u e
    exact ⟨v', by rw [List.getElem?_set_ne ne]; exact h1, h2⟩
end

/-! ### the weakest readings -/
def WE (X : Cx) (e : Expr) : TE := fun σ H Q => ∀ (pins : List (Addr × Obj)) (s : Shared), Inv X pins σ H s → wpAny (model X.prog X.w) X.A (eval e X.env) (EP X pins σ Q) X.xe s
def WT (X : Cx) (e : Expr) : TT := fun σ H Q => ∀ (pins : List (Addr × Obj)) (s : Shared), Inv X pins σ H s → wpAny (model X.prog X.w) X.A (isTrue e X.env (eval e X.env)) (TP X pins σ Q) X.xe s
def WW (X : Cx) (e : Expr) : TT := fun σ H Q => ∀ (whole : Sem Value) (pins : List (Addr × Obj)) (s : Shared), Inv X pins σ H s → wpAny (model X.prog X.w) X.A (isTrue e X.env whole) (TP X pins σ Q) X.xe s
def WA (X : Cx) (es : List Expr) : TA := fun σ H Q => ∀ (pos : Pos) (pins : List (Addr × Obj)) (s : Shared), Inv X pins σ H s → wpAny (model X.prog X.w) X.A (spliced (backTo pos (starEach es X.env))) (AP X pins σ Q) X.xe s
def WS (X : Cx) (st : Stmt) : TS := fun D σ H => ∀ (pins : List (Addr × Obj)) (s : Shared), Inv X pins σ H s → wpAny (model X.prog X.w) X.A (PySem.exec st X.env) (SP X pins D) X.xe s
def WB (X : Cx) (st : List Stmt) : TS := fun D σ H => ∀ (pins : List (Addr × Obj)) (s : Shared), Inv X pins σ H s → wpAny (model X.prog X.w) X.A (PySem.execs st X.env) (SP X pins D) X.xe s
section
variable {X : Cx} {e : Expr} {es : List Expr} {st : Stmt} {sts : List Stmt} {σ : St} {H : Hp}
theorem WE.pe : PE X e (WE X e) := ⟨fun pins s _ _ _ I h => h pins s I⟩
theorem WT.pt : PT X e (WT X e) := ⟨fun pins s _ _ _ I h => h pins s I⟩
theorem WW.pw : PW X e (WW X e) := ⟨fun wh pins s _ _ _ I h => h wh pins s I⟩
theorem WA.pa : PA X es (WA X es) := ⟨fun pos pins s _ _ _ I h => h pos pins s I⟩
theorem WS.ps : PS X st (WS X st) := ⟨fun pins s _ _ _ I h => h pins s I⟩
theorem WB.pss : PSs X sts (WB X sts) := ⟨fun pins s _ _ _ I h => h pins s I⟩
theorem WE.of {t : TE} {Q : VK} (h : PE X e t) (q : t σ H Q) : WE X e σ H Q := fun pins s I => h.run pins s σ H Q I q
theorem WT.of {t : TT} {Q : Bool → Hp → Prop} (h : PT X e t) (q : t σ H Q) : WT X e σ H Q := fun pins s I => h.run pins s σ H Q I q
theorem WW.of {t : TT} {Q : Bool → Hp → Prop} (h : PW X e t) (q : t σ H Q) : WW X e σ H Q := fun wh pins s I => h.run wh pins s σ H Q I q
theorem WA.of {t : TA} {Q : List V → Hp → Prop} (h : PA X es t) (q : t σ H Q) : WA X es σ H Q := fun pos pins s I => h.run pos pins s σ H Q I q
theorem WS.of {t : TS} {D : Ends} (h : PS X st t) (q : t D σ H) : WS X st D σ H := fun pins s I => h.run pins s σ H D I q
theorem WB.of {t : TS} {D : Ends} (h : PSs X sts t) (q : t D σ H) : WB X sts D σ H := fun pins s I => h.run pins s σ H D I q
theorem WE.mono {Q Q' : VK} (h : WE X e σ H Q) (k : ∀ v H', Q v H' → Q' v H') : WE X e σ H Q' := fun pins s I =>
  thn (h pins s I) fun _ _ ⟨v, H', I', r, q⟩ => ⟨v, H', I', r, k v H' q⟩
theorem WT.mono {Q Q' : Bool → Hp → Prop} (h : WT X e σ H Q) (k : ∀ v H', Q v H' → Q' v H') : WT X e σ H Q' := fun pins s I =>
  thn (h pins s I) fun _ _ ⟨H', I', q⟩ => ⟨H', I', k _ H' q⟩
theorem WA.mono {Q Q' : List V → Hp → Prop} (h : WA X es σ H Q) (k : ∀ v H', Q v H' → Q' v H') : WA X es σ H Q' := fun pos pins s I =>
  thn (h pos pins s I) fun _ _ ⟨v, H', I', r, q⟩ => ⟨v, H', I', r, k v H' q⟩
theorem WS.mono {D D' : Ends} (h : WS X st D σ H) (k1 : ∀ σ' H', D.nx σ' H' → D'.nx σ' H') (k2 : ∀ v H', D.rt v H' → D'.rt v H') (k3 : ∀ σ' H', D.bk σ' H' → D'.bk σ' H') (k4 : ∀ σ' H', D.ct σ' H' → D'.ct σ' H') : WS X st D' σ H := fun pins s I =>
  thn (h pins s I) fun f s' q => by
    cases f with
    | next => obtain ⟨σ', H', I', q⟩ := q; exact ⟨σ', H', I', k1 _ _ q⟩
    | brk => obtain ⟨σ', H', I', q⟩ := q; exact ⟨σ', H', I', k3 _ _ q⟩
    | cont => obtain ⟨σ', H', I', q⟩ := q; exact ⟨σ', H', I', k4 _ _ q⟩
    | ret u => obtain ⟨v, σ', H', I', r, q⟩ := q; exact ⟨v, σ', H', I', r, k2 _ _ q⟩
theorem WB.mono {D D' : Ends} (h : WB X sts D σ H) (k1 : ∀ σ' H', D.nx σ' H' → D'.nx σ' H') (k2 : ∀ v H', D.rt v H' → D'.rt v H') (k3 : ∀ σ' H', D.bk σ' H' → D'.bk σ' H') (k4 : ∀ σ' H', D.ct σ' H' → D'.ct σ' H') : WB X sts D' σ H := fun pins s I =>
  thn (h pins s I) fun f s' q => by
    cases f with
    | next => obtain ⟨σ', H', I', q⟩ := q; exact ⟨σ', H', I', k1 _ _ q⟩
    | brk => obtain ⟨σ', H', I', q⟩ := q; exact ⟨σ', H', I', k3 _ _ q⟩
    | cont => obtain ⟨σ', H', I', q⟩ := q; exact ⟨σ', H', I', k4 _ _ q⟩
    | ret u => obtain ⟨v, σ', H', I', r, q⟩ := q; exact ⟨v, σ', H', I', r, k2 _ _ q⟩
end
end NV

namespace NV
open PySem L2

/-- the classes: addresses, what they are -/
structure Zt where
  ca : Nat → Addr
  ci : Nat → CInfo
abbrev kx (X : Cx) (Z : Zt) : Kx := ⟨X.K, Z.ca, Z.ci⟩
theorem Rps.get : ∀ {k : Kx} {F : Hp} {l : List D} {vs : List V} {i : Nat} {d : D}, Rps k F l vs → l[i]? = some d → ∃ v, vs[i]? = some v ∧ Rp k F d v
  | k, F, [], vs, i, d, h, e => by simp at e
  | k, F, x :: xs, vs, 0, d, h, e => by
    obtain ⟨v, r, rfl, h2, h3⟩ := h.uncons
    simp at e; subst e
    exact ⟨v, rfl, h2⟩
  | k, F, x :: xs, vs, i + 1, d, h, e => by
    obtain ⟨v, r, rfl, h2, h3⟩ := h.uncons
    simp at e
    obtain ⟨u, h4, h5⟩ := Rps.get (i := i) h3 e
    exact ⟨u, by simpa using h4, h5⟩
/-! ### == and < of trees -/
theorem eqF_V {x y : D} (fx : flatD x = true) (fy : flatD y = true) : eqD x y = eqV (vOf x) (vOf y) := by
  cases x <;> cases y <;> first | rfl | (simp [flatD] at fx; done) | (simp [flatD] at fy; done) | (simp [eqD, eqF, eqV, vOf])
theorem eqDs_range : ∀ (l m : List D), eqDs l m = ((List.range (min l.length m.length)).all (fun j => eqD (l.getD j .non) (m.getD j .non)) && l.length == m.length)
  | [], [] => by simp [eqDs]
  | [], y :: m => by simp [eqDs]
  | x :: l, [] => by simp [eqDs]
  | x :: l, y :: m => by
    rw [show eqDs (x :: l) (y :: m) = (eqD x y && eqDs l m) by simp [eqDs], eqDs_range l m]
    rw [show min (x :: l).length (y :: m).length = min l.length m.length + 1 by simp, List.range_succ_eq_map]
    simp [List.all_map, Function.comp_def, Bool.and_assoc]
theorem ltDs_range : ∀ (l m : List D), ltDs l m = SeqAt.firstLt (fun j => eqD (l.getD j .non) (m.getD j .non)) (fun j => ltD (l.getD j .non) (m.getD j .non)) (decide (l.length < m.length)) (List.range (min l.length m.length))
  | [], [] => by simp [ltDs, SeqAt.firstLt]
  | [], y :: m => by simp [ltDs, SeqAt.firstLt]
  | x :: l, [] => by simp [ltDs, SeqAt.firstLt]
  | x :: l, y :: m => by
    have key : ∀ (e r : Nat → Bool) (z : Bool) (ks : List Nat), SeqAt.firstLt e r z (ks.map Nat.succ) = SeqAt.firstLt (fun j => e (j + 1)) (fun j => r (j + 1)) z ks := by
      intro e r z ks
      induction ks with
      | nil => rfl
      | cons k ks ih => simp only [List.map_cons, SeqAt.firstLt, ih]
    rw [show ltDs (x :: l) (y :: m) = (if eqD x y then ltDs l m else ltD x y) by simp [ltDs], ltDs_range l m]
    rw [show min (x :: l).length (y :: m).length = min l.length m.length + 1 by simp, List.range_succ_eq_map]
    simp only [SeqAt.firstLt, key]
    simp
theorem datN_mem {n : Nat} {l : List D} {x : D} (h : l.all (datN n) = true) (m : x ∈ l) : datN n x = true := List.all_eq_true.mp h x m
theorem getD_mem {l : List D} {j : Nat} (h : j < l.length) : l.getD j .non ∈ l := by
  simp [List.getD, List.getElem?_eq_getElem h]
section
variable {X : Cx} {Z : Zt} {pins : List (Addr × Obj)} {σ : St} {H : Hp} {s : Shared}
theorem Rps.getD {k : Kx} {F : Hp} {l : List D} {vs : List V} (h : Rps k F l vs) {j : Nat} (hj : j < l.length) : ∃ v, vs[j]? = some v ∧ Rp k F (l.getD j .non) v := by
  obtain ⟨v, h1, h2⟩ := h.get (List.getElem?_eq_getElem hj)
  refine ⟨v, h1, ?_⟩
  rw [List.getD, List.getElem?_eq_getElem hj]
  exact h2
theorem eqDs_same {l : List D} {n : Nat} (hyp : ∀ x y v, x ∈ l → Rp (kx X Z) H x v → Rp (kx X Z) H y v → datN n y = true → eqD x y = true) : ∀ {l' m : List D} {vs : List V}, (∀ x ∈ l', x ∈ l) → Rps (kx X Z) H l' vs → Rps (kx X Z) H m vs → m.all (datN n) = true → eqDs l' m = true
  | [], m, vs, hm, h1, h2, d => by
    unfold Rps at h1; subst h1
    cases m with
    | nil => simp [eqDs]
    | cons y m => unfold Rps at h2; obtain ⟨_, _, z, _⟩ := h2; cases z
  | x :: l', m, vs, hm, h1, h2, d => by
    unfold Rps at h1
    obtain ⟨v, r, rfl, a1, a2⟩ := h1
    cases m with
    | nil => unfold Rps at h2; cases h2
    | cons y m =>
      unfold Rps at h2
      obtain ⟨v', r', z, b1, b2⟩ := h2
      cases z
      simp only [List.all_cons, Bool.and_eq_true] at d
      simp only [eqDs, Bool.and_eq_true]
      exact ⟨hyp x y v (hm x (by simp)) a1 b1 d.1, eqDs_same hyp (fun z hz => hm z (by simp [hz])) a2 b2 d.2⟩
theorem eqD_same (I : Inv X pins σ H s) : ∀ (n m : Nat) (x y : D) (v : V), datN n x = true → datN m y = true → Rp (kx X Z) H x v → Rp (kx X Z) H y v → eqD x y = true := by
  intro n
  induction n with
  | zero =>
    intro m x y v dx dy hx hy
    cases x <;> first | (simp [datN] at dx; done) | skip
    all_goals
      simp only [Rp] at hx
      subst hx
      cases y <;> simp only [Rp] at hy <;> first | (obtain ⟨_, _, z, _⟩ := hy; cases z; done) | (obtain ⟨_, _, _, _, z, _⟩ := hy; cases z; done) | (obtain ⟨_, _, _, z, _⟩ := hy; cases z; done) | (obtain ⟨_, z, _⟩ := hy; cases z; done) | (cases hy; done) | (cases hy; simp [eqD, eqF])
  | succ n ih =>
    intro m x y v dx dy hx hy
    cases x with
    | tup l =>
      simp only [Rp] at hx
      obtain ⟨a, vs, rfl, ha, hv⟩ := hx
      cases y with
      | tup l' =>
        simp only [Rp] at hy
        obtain ⟨b, us, z, hb, hu⟩ := hy
        cases z
        rw [I.tuple_inj hb ha] at hu
        simp only [eqD]
        cases m with
        | zero => simp [datN] at dy
        | succ m =>
          simp only [datN] at dx dy
          exact eqDs_same (l := l) (n := m) (fun x y v hx h1 h2 d => ih m x y v (datN_mem dx hx) d h1 h2) (fun _ h => h) hv hu dy
      | lst l' =>
        simp only [Rp] at hy
        obtain ⟨b, us, z, hb, hu⟩ := hy
        cases z
        obtain ⟨_, _, p1, _⟩ := I.tuple ha
        obtain ⟨_, _, p2, _⟩ := I.list (.of hb)
        exact absurd rfl (SeqAt.ne_of_list_tuple p2.isList p1)
      | ins c l' => cases m <;> simp [datN] at dy
      | dct c l' => cases m <;> simp [datN] at dy
      | scr l' => cases m <;> simp [datN] at dy
      | _ => simp only [Rp] at hy; cases hy
    | lst l =>
      simp only [Rp] at hx
      obtain ⟨a, vs, rfl, ha, hv⟩ := hx
      cases y with
      | lst l' =>
        simp only [Rp] at hy
        obtain ⟨b, us, z, hb, hu⟩ := hy
        cases z
        rw [ha] at hb
        cases hb
        simp only [eqD]
        cases m with
        | zero => simp [datN] at dy
        | succ m =>
          simp only [datN] at dx dy
          exact eqDs_same (l := l) (n := m) (fun x y v hx h1 h2 d => ih m x y v (datN_mem dx hx) d h1 h2) (fun _ h => h) hv hu dy
      | tup l' =>
        simp only [Rp] at hy
        obtain ⟨b, us, z, hb, hu⟩ := hy
        cases z
        obtain ⟨_, _, p1, _⟩ := I.tuple hb
        obtain ⟨_, _, p2, _⟩ := I.list (.of ha)
        exact absurd rfl (SeqAt.ne_of_list_tuple p2.isList p1)
      | ins c l' => cases m <;> simp [datN] at dy
      | dct c l' => cases m <;> simp [datN] at dy
      | scr l' => cases m <;> simp [datN] at dy
      | _ => simp only [Rp] at hy; cases hy
    | ins c l => simp [datN] at dx
    | dct c l => simp [datN] at dx
    | scr l => simp [datN] at dx
    | _ =>
      simp only [Rp] at hx
      subst hx
      cases y <;> simp only [Rp] at hy <;> first | (obtain ⟨_, _, z, _⟩ := hy; cases z; done) | (obtain ⟨_, _, _, _, z, _⟩ := hy; cases z; done) | (obtain ⟨_, _, _, z, _⟩ := hy; cases z; done) | (obtain ⟨_, z, _⟩ := hy; cases z; done) | (cases hy; done) | (cases hy; simp [eqD, eqF])
end
end NV
namespace NV
open PySem L2 SeqAt
section
variable {X : Cx} {Z : Zt} {pins : List (Addr × Obj)} {σ : St} {H : Hp} {s : Shared}
/-- what stands behind a tree of data -/
def Sh (X : Cx) (Z : Zt) (H : Hp) (s : Shared) : D → Value → Prop
  | .non, u => u = .none
  | .bl b, u => u = .bool b
  | .int i, u => ∃ t, u = .int i t
  | .str z, u => ∃ t, u = .str z t
  | .tup l, u => ∃ a vs its, u = .ref a ∧ s.heap.IsTuple a (List.toArray its) ∧ Vals vs its ∧ Rps (kx X Z) H l vs
  | .lst l, u => ∃ a vs its, u = .ref a ∧ s.heap.IsList a (List.toArray its) ∧ Vals vs its ∧ Rps (kx X Z) H l vs
  | _, _ => False
theorem sh_of (I : Inv X pins σ H s) {n : Nat} {x : D} {v : V} {u : Value} (d : datN n x = true) (h : Rp (kx X Z) H x v) (r : RelV v u) : Sh X Z H s x u := by
  cases x with
  | non => simp only [Rp] at h; subst h; exact r
  | bl b => simp only [Rp] at h; subst h; exact r
  | int i => simp only [Rp] at h; subst h; exact r
  | str z => simp only [Rp] at h; subst h; exact r
  | tup l =>
    simp only [Rp] at h
    obtain ⟨a, vs, rfl, ha, hv⟩ := h
    obtain ⟨its, rv, p, _⟩ := I.tuple ha
    exact ⟨a, vs, its, r, p, rv, hv⟩
  | lst l =>
    simp only [Rp] at h
    obtain ⟨a, vs, rfl, ha, hv⟩ := h
    obtain ⟨its, rv, p, _⟩ := I.list (.of ha)
    exact ⟨a, vs, its, r, p.isList, rv, hv⟩
  | ins c l => cases n <;> simp [datN] at d
  | dct c l => cases n <;> simp [datN] at d
  | scr l => cases n <;> simp [datN] at d
/-- the items of two trees stand at the same places -/
theorem sh_items {l : List D} {vs : List V} {its : List Value} (rv : Vals vs its) (hv : Rps (kx X Z) H l vs) {j : Nat} (h1 : j < its.toArray.size) : ∃ v, RelV v its.toArray[j] ∧ Rp (kx X Z) H (l.getD j .non) v ∧ l.getD j .non ∈ l := by
  have e1 := rv.length
  have e2 := hv.len
  have hj : j < l.length := by simp at h1; omega
  obtain ⟨v, g1, g2⟩ := hv.getD hj
  obtain ⟨u, g3, g4⟩ := rv.get g1
  refine ⟨v, ?_, g2, getD_mem hj⟩
  have : its.toArray[j] = u := by
    have h1' : j < its.length := by simpa using h1
    rw [List.getElem?_eq_getElem h1'] at g3
    simpa using Option.some.inj g3
  rw [this]; exact g4
/-- the flat and mixed cases of == -/
theorem rc_mixed {x y : D} {u w : Value} {A : Around} (hu : A.units < cLine) (hx : Sh X Z H s x u) (hy : Sh X Z H s y w) (h1 : ∀ l m, x = .tup l → y = .tup m → False) (h2 : ∀ l m, x = .lst l → y = .lst m → False) : RcAt A s u w (eqD x y) ∧ RcNeAt A s u w (!eqD x y) ∧ EqAt A s u w (eqD x y) := by
  cases x <;> cases y <;> first | exact hx.elim | exact hy.elim | exact (h1 _ _ rfl rfl).elim | exact (h2 _ _ rfl rfl).elim | skip
  all_goals simp only [eqD, eqF]
  · cases hx; cases hy; exact ⟨.none_none, .none_none, .same _⟩
  · cases hx; cases hy; exact ⟨.none_bool _, .none_bool _, .none_bool _⟩
  · cases hx; obtain ⟨_, rfl⟩ := hy; exact ⟨.none_int _ _, .none_int _ _, .none_int _ _⟩
  · cases hx; obtain ⟨_, rfl⟩ := hy; exact ⟨.none_str _ _, .none_str _ _, .none_str _ _⟩
  · cases hx; obtain ⟨a, vs, its, rfl, p, _⟩ := hy; exact ⟨.none_tuple p hu, .none_tuple p hu, .none_tuple p hu⟩
  · cases hx; obtain ⟨a, vs, its, rfl, p, _⟩ := hy; exact ⟨.none_list p hu, .none_list p hu, .none_list p hu⟩
  · cases hx; cases hy; exact ⟨.bool_none _, .bool_none _, .bool_none _⟩
  · cases hx; cases hy; exact ⟨.bool_bool _ _, .bool_bool _ _, .bool_bool _ _⟩
  · cases hx; obtain ⟨_, rfl⟩ := hy; exact ⟨.bool_int _ _ _, .bool_int _ _ _, .bool_int _ _ _⟩
  · cases hx; obtain ⟨_, rfl⟩ := hy; exact ⟨.bool_str _ _ _, .bool_str _ _ _, .bool_str _ _ _⟩
  · cases hx; obtain ⟨a, vs, its, rfl, p, _⟩ := hy; exact ⟨.bool_tuple _ p hu, .bool_tuple _ p hu, .bool_tuple _ p hu⟩
  · cases hx; obtain ⟨a, vs, its, rfl, p, _⟩ := hy; exact ⟨.bool_list _ p hu, .bool_list _ p hu, .bool_list _ p hu⟩
  · obtain ⟨_, rfl⟩ := hx; cases hy; exact ⟨.int_none _ _, .int_none _ _, .int_none _ _⟩
  · obtain ⟨_, rfl⟩ := hx; cases hy; exact ⟨.int_bool _ _ _, .int_bool _ _ _, .int_bool _ _ _⟩
  · obtain ⟨_, rfl⟩ := hx; obtain ⟨_, rfl⟩ := hy; exact ⟨.int_int _ _ _ _, .int_int _ _ _ _, .int_int _ _ _ _⟩
  · obtain ⟨_, rfl⟩ := hx; obtain ⟨_, rfl⟩ := hy; exact ⟨.int_str _ _ _ _, .int_str _ _ _ _, .int_str _ _ _ _⟩
  · obtain ⟨_, rfl⟩ := hx; obtain ⟨a, vs, its, rfl, p, _⟩ := hy; exact ⟨.int_tuple _ _ p hu, .int_tuple _ _ p hu, .int_tuple _ _ p hu⟩
  · obtain ⟨_, rfl⟩ := hx; obtain ⟨a, vs, its, rfl, p, _⟩ := hy; exact ⟨.int_list _ _ p hu, .int_list _ _ p hu, .int_list _ _ p hu⟩
  · obtain ⟨_, rfl⟩ := hx; cases hy; exact ⟨.str_none _ _, .str_none _ _, .str_none _ _⟩
  · obtain ⟨_, rfl⟩ := hx; cases hy; exact ⟨.str_bool _ _ _, .str_bool _ _ _, .str_bool _ _ _⟩
  · obtain ⟨_, rfl⟩ := hx; obtain ⟨_, rfl⟩ := hy; exact ⟨.str_int _ _ _ _, .str_int _ _ _ _, .str_int _ _ _ _⟩
  · obtain ⟨_, rfl⟩ := hx; obtain ⟨_, rfl⟩ := hy; exact ⟨.str_str _ _ _ _, .str_str _ _ _ _, .str_str _ _ _ _⟩
  · obtain ⟨_, rfl⟩ := hx; obtain ⟨a, vs, its, rfl, p, _⟩ := hy; exact ⟨.str_tuple _ _ p hu, .str_tuple _ _ p hu, .str_tuple _ _ p hu⟩
  · obtain ⟨_, rfl⟩ := hx; obtain ⟨a, vs, its, rfl, p, _⟩ := hy; exact ⟨.str_list _ _ p hu, .str_list _ _ p hu, .str_list _ _ p hu⟩
  · obtain ⟨a, vs, its, rfl, p, _⟩ := hx; cases hy; exact ⟨.tuple_none p hu, .tuple_none p hu, .tuple_none p hu⟩
  · obtain ⟨a, vs, its, rfl, p, _⟩ := hx; cases hy; exact ⟨.tuple_bool _ p hu, .tuple_bool _ p hu, .tuple_bool _ p hu⟩
  · obtain ⟨a, vs, its, rfl, p, _⟩ := hx; obtain ⟨_, rfl⟩ := hy; exact ⟨.tuple_int _ _ p hu, .tuple_int _ _ p hu, .tuple_int _ _ p hu⟩
  · obtain ⟨a, vs, its, rfl, p, _⟩ := hx; obtain ⟨_, rfl⟩ := hy; exact ⟨.tuple_str _ _ p hu, .tuple_str _ _ p hu, .tuple_str _ _ p hu⟩
  · obtain ⟨a, vs, its, rfl, p, _⟩ := hx; obtain ⟨b, us, jts, rfl, q, _⟩ := hy; exact ⟨.tuple_list p q hu, .tuple_list p q hu, .tuple_list p q hu⟩
  · obtain ⟨a, vs, its, rfl, p, _⟩ := hx; cases hy; exact ⟨.list_none p hu, .list_none p hu, .list_none p hu⟩
  · obtain ⟨a, vs, its, rfl, p, _⟩ := hx; cases hy; exact ⟨.list_bool _ p hu, .list_bool _ p hu, .list_bool _ p hu⟩
  · obtain ⟨a, vs, its, rfl, p, _⟩ := hx; obtain ⟨_, rfl⟩ := hy; exact ⟨.list_int _ _ p hu, .list_int _ _ p hu, .list_int _ _ p hu⟩
  · obtain ⟨a, vs, its, rfl, p, _⟩ := hx; obtain ⟨_, rfl⟩ := hy; exact ⟨.list_str _ _ p hu, .list_str _ _ p hu, .list_str _ _ p hu⟩
  · obtain ⟨a, vs, its, rfl, p, _⟩ := hx; obtain ⟨b, us, jts, rfl, q, _⟩ := hy; exact ⟨.list_tuple p q hu, .list_tuple p q hu, .list_tuple p q hu⟩
/-- == of trees: by the items' == -/
theorem rc_step {x y : D} {u w : Value} {A : Around} (hu : A.units < cLine) (hx : Sh X Z H s x u) (hy : Sh X Z H s y w)
    (ih : ∀ (x' y' : D) (v' w' : V) (a b : Value), (∀ l, (x = .tup l ∨ x = .lst l) → x' ∈ l) → (∀ l, (y = .tup l ∨ y = .lst l) → y' ∈ l) → Rp (kx X Z) H x' v' → Rp (kx X Z) H y' w' → RelV v' a → RelV w' b → EqAt A.in1 s a b (eqD x' y')) :
    RcAt A s u w (eqD x y) ∧ RcNeAt A s u w (!eqD x y) := by
  by_cases ht : ∃ l m, x = .tup l ∧ y = .tup m
  · obtain ⟨l, m, rfl, rfl⟩ := ht
    obtain ⟨a, vs, its, rfl, p, rv, hv⟩ := hx
    obtain ⟨b, us, jts, rfl, q, ru, hw⟩ := hy
    have e : ∀ j (h1 : j < its.toArray.size) (h2 : j < jts.toArray.size), EqAt A.in1 s its.toArray[j] jts.toArray[j] (eqD (l.getD j .non) (m.getD j .non)) := fun j h1 h2 => by
      obtain ⟨v', k1, k2, k3⟩ := sh_items rv hv h1
      obtain ⟨w', k4, k5, k6⟩ := sh_items ru hw h2
      exact ih _ _ v' w' _ _ (fun l' hl => by rcases hl with hl | hl <;> cases hl; exact k3) (fun l' hl => by rcases hl with hl | hl <;> cases hl; exact k6) k2 k5 k1 k4
    have z : ((List.range (min its.toArray.size jts.toArray.size)).all (fun j => eqD (l.getD j .non) (m.getD j .non)) && its.toArray.size == jts.toArray.size) = eqD (.tup l) (.tup m) := by
      simp only [eqD, eqDs_range, List.size_toArray, ← rv.length, ← ru.length, hv.len, hw.len]
    exact ⟨z ▸ RcAt.tuples p q hu e, z ▸ RcNeAt.tuples p q hu e⟩
  · by_cases hl : ∃ l m, x = .lst l ∧ y = .lst m
    · obtain ⟨l, m, rfl, rfl⟩ := hl
      obtain ⟨a, vs, its, rfl, p, rv, hv⟩ := hx
      obtain ⟨b, us, jts, rfl, q, ru, hw⟩ := hy
      by_cases hz : its.toArray.size = jts.toArray.size
      · have e : ∀ j (h1 : j < its.toArray.size) (h2 : j < jts.toArray.size), EqAt A.in1 s its.toArray[j] jts.toArray[j] (eqD (l.getD j .non) (m.getD j .non)) := fun j h1 h2 => by
          obtain ⟨v', k1, k2, k3⟩ := sh_items rv hv h1
          obtain ⟨w', k4, k5, k6⟩ := sh_items ru hw h2
          exact ih _ _ v' w' _ _ (fun l' hl => by rcases hl with hl | hl <;> cases hl; exact k3) (fun l' hl => by rcases hl with hl | hl <;> cases hl; exact k6) k2 k5 k1 k4
        have hz' : l.length = m.length := by
          have := hz
          simp only [List.size_toArray, ← rv.length, ← ru.length, hv.len, hw.len] at this
          exact this
        have z : (List.range its.toArray.size).all (fun j => eqD (l.getD j .non) (m.getD j .non)) = eqD (.lst l) (.lst m) := by
          simp only [eqD, eqDs_range, List.size_toArray, ← rv.length, hv.len, hz', beq_self_eq_true, Bool.and_true, Nat.min_self]
        exact ⟨z ▸ RcAt.lists p q hz hu e, z ▸ RcNeAt.lists p q hz hu e⟩
      · have hz' : l.length ≠ m.length := fun z => hz (by simp only [List.size_toArray, ← rv.length, ← ru.length, hv.len, hw.len]; exact z)
        have z : false = eqD (.lst l) (.lst m) := by
          simp only [eqD, eqDs_range]
          rw [beq_eq_false_iff_ne.mpr hz', Bool.and_false]
        have hne : (its.toArray.size != jts.toArray.size) = true := by simpa using hz
        refine ⟨z ▸ RcAt.lists_lengths p q hne hu, ?_⟩
        rw [← z]
        exact RcNeAt.lists_lengths p q hne hu
    · have := rc_mixed hu hx hy (fun l m h1 h2 => ht ⟨l, m, h1, h2⟩) (fun l m h1 h2 => hl ⟨l, m, h1, h2⟩)
      exact ⟨this.1, this.2.1⟩
theorem datN_sub {n : Nat} {x : D} (d : datN n x = true) {x' : D} (h : ∃ l, (x = .tup l ∨ x = .lst l) ∧ x' ∈ l) : ∃ m, n = m + 1 ∧ datN m x' = true := by
  obtain ⟨l, h, hm⟩ := h
  cases n with
  | zero => rcases h with rfl | rfl <;> simp [datN] at d
  | succ n => rcases h with rfl | rfl <;> exact ⟨n, rfl, datN_mem (by simpa [datN] using d) hm⟩
/-- trees of data stand in the heap -/
structure ShA (X : Cx) (Z : Zt) (H : Hp) (s : Shared) : Prop where
  sh : ∀ {n : Nat} {x : D} {v : V} {u : Value}, datN n x = true → Rp (kx X Z) H x v → RelV v u → Sh X Z H s x u
  same : ∀ (n m : Nat) (x y : D) (v : V), datN n x = true → datN m y = true → Rp (kx X Z) H x v → Rp (kx X Z) H y v → eqD x y = true
theorem ShA.of (I : Inv X pins σ H s) : ShA X Z H s := ⟨fun d h r => sh_of I d h r, eqD_same I⟩
theorem eqAtS (I : ShA X Z H s) : ∀ (n m : Nat) (A : Around) (x y : D) (v w : V) (a b : Value), A.units + n < cLine → datN n x = true → datN m y = true → Rp (kx X Z) H x v → Rp (kx X Z) H y w → RelV v a → RelV w b → EqAt A s a b (eqD x y) := by
  intro n
  induction n with
  | zero =>
    intro m A x y v w a b hu dx dy hx hy ra rb
    exact (rc_mixed (Z := Z) (by omega) (I.sh dx hx ra) (I.sh dy hy rb) (fun l m h _ => by subst h; simp [datN] at dx) (fun l m h _ => by subst h; simp [datN] at dx)).2.2
  | succ n ih =>
    intro m A x y v w a b hu dx dy hx hy ra rb
    have sx := I.sh dx hx ra
    have sy := I.sh dy hy rb
    by_cases hs : (∃ l k, x = .tup l ∧ y = .tup k) ∨ ∃ l k, x = .lst l ∧ y = .lst k
    · have refs : ∃ p q, a = .ref p ∧ b = .ref q ∧ v = .ref p ∧ w = .ref q := by
        rcases hs with ⟨l, k, rfl, rfl⟩ | ⟨l, k, rfl, rfl⟩
        · simp only [Rp] at hx hy
          obtain ⟨p, _, rfl, _⟩ := hx
          obtain ⟨q, _, rfl, _⟩ := hy
          exact ⟨p, q, ra, rb, rfl, rfl⟩
        · simp only [Rp] at hx hy
          obtain ⟨p, _, rfl, _⟩ := hx
          obtain ⟨q, _, rfl, _⟩ := hy
          exact ⟨p, q, ra, rb, rfl, rfl⟩
      obtain ⟨p, q, rfl, rfl, rfl, rfl⟩ := refs
      by_cases hpq : p = q
      · subst hpq
        rw [I.same _ _ _ _ _ dx dy hx hy]
        exact .same _
      · refine .of_refs hpq (rc_step (by omega) sx sy fun x' y' v' w' a' b' mx my hx' hy' ra' rb' => ?_).1
        obtain ⟨mx', e1, dx'⟩ := datN_sub dx (x' := x') (by rcases hs with ⟨l, k, h1, h2⟩ | ⟨l, k, h1, h2⟩; exact ⟨l, .inl h1, mx l (.inl h1)⟩; exact ⟨l, .inr h1, mx l (.inr h1)⟩)
        obtain ⟨my', e2, dy'⟩ := datN_sub dy (x' := y') (by rcases hs with ⟨l, k, h1, h2⟩ | ⟨l, k, h1, h2⟩; exact ⟨k, .inl h2, my k (.inl h2)⟩; exact ⟨k, .inr h2, my k (.inr h2)⟩)
        cases e1
        exact ih my' A.in1 x' y' v' w' a' b' (by show A.units + 1 + _ < cLine; omega) dx' dy' hx' hy' ra' rb'
    · exact (rc_mixed (Z := Z) (by omega) sx sy (fun l m h1 h2 => hs (.inl ⟨l, m, h1, h2⟩)) (fun l m h1 h2 => hs (.inr ⟨l, m, h1, h2⟩))).2.2
theorem rcAtS (I : ShA X Z H s) {n m : Nat} {A : Around} {x y : D} {v w : V} {a b : Value} (hu : A.units + n < cLine) (dx : datN n x = true) (dy : datN m y = true) (hx : Rp (kx X Z) H x v) (hy : Rp (kx X Z) H y w) (ra : RelV v a) (rb : RelV w b) :
    RcAt A s a b (eqD x y) ∧ RcNeAt A s a b (!eqD x y) := by
  have sx := I.sh dx hx ra
  have sy := I.sh dy hy rb
  by_cases hs : (∃ l k, x = .tup l ∧ y = .tup k) ∨ ∃ l k, x = .lst l ∧ y = .lst k
  · refine rc_step (by omega) sx sy fun x' y' v' w' a' b' mx my hx' hy' ra' rb' => ?_
    obtain ⟨mx', e1, dx'⟩ := datN_sub dx (x' := x') (by rcases hs with ⟨l, k, h1, h2⟩ | ⟨l, k, h1, h2⟩; exact ⟨l, .inl h1, mx l (.inl h1)⟩; exact ⟨l, .inr h1, mx l (.inr h1)⟩)
    obtain ⟨my', e2, dy'⟩ := datN_sub dy (x' := y') (by rcases hs with ⟨l, k, h1, h2⟩ | ⟨l, k, h1, h2⟩; exact ⟨k, .inl h2, my k (.inl h2)⟩; exact ⟨k, .inr h2, my k (.inr h2)⟩)
    subst e1
    exact eqAtS I mx' my' A.in1 x' y' v' w' a' b' (by show A.units + 1 + _ < cLine; omega) dx' dy' hx' hy' ra' rb'
  · have := rc_mixed (Z := Z) (A := A) (by omega) sx sy (fun l m h1 h2 => hs (.inl ⟨l, m, h1, h2⟩)) (fun l m h1 h2 => hs (.inr ⟨l, m, h1, h2⟩))
    exact ⟨this.1, this.2.1⟩
/-- < of trees -/
theorem ltAtS (I : ShA X Z H s) : ∀ (n : Nat) (k m k' : Nat) (A : Around) (x y : D) (v w : V) (a b : Value), A.units + k < cLine → ltOk n x y = true → datN k x = true → datN m y = true → Rp (kx X Z) H x v → Rp (kx X Z) H y w → RelV v a → RelV w b → RcLt A s a b (ltD x y) := by
  intro n
  have flats : ∀ (A : Around) (x y : D) (v w : V) (a b : Value), (∃ i j, x = .int i ∧ y = .int j) ∨ (∃ i j, x = .str i ∧ y = .str j) → Rp (kx X Z) H x v → Rp (kx X Z) H y w → RelV v a → RelV w b → RcLt A s a b (ltD x y) := by
    intro A x y v w a b h hx hy ra rb
    rcases h with ⟨i, j, rfl, rfl⟩ | ⟨i, j, rfl, rfl⟩
    · simp only [Rp] at hx hy; subst hx hy
      obtain ⟨t, rfl⟩ := ra; obtain ⟨t', rfl⟩ := rb
      simp only [ltD]
      exact fun prog w E Q h => PyProof.Rows.lt_int h
    · simp only [Rp] at hx hy; subst hx hy
      obtain ⟨t, rfl⟩ := ra; obtain ⟨t', rfl⟩ := rb
      simp only [ltD]
      exact fun prog w E Q h => PyProof.Rows.lt_str h
  induction n with
  | zero =>
    intro k m k' A x y v w a b hu hok dx dy hx hy ra rb
    refine flats A x y v w a b ?_ hx hy ra rb
    cases x <;> cases y <;> first | (simp [ltOk] at hok; done) | exact .inl ⟨_, _, rfl, rfl⟩ | exact .inr ⟨_, _, rfl, rfl⟩
  | succ n ih =>
    intro k m k' A x y v w a b hu hok dx dy hx hy ra rb
    have key : ∀ (l r : List D) (vs us : List V) (its jts : List Value), (x = .tup l ∨ x = .lst l) → (y = .tup r ∨ y = .lst r) → Vals vs its → Vals us jts → Rps (kx X Z) H l vs → Rps (kx X Z) H r us → ((l.zip r).all fun p => eqD p.1 p.2 || ltOk n p.1 p.2) = true →
        (∀ j (h1 : j < its.toArray.size) (h2 : j < jts.toArray.size), EqAt A.in1 s its.toArray[j] jts.toArray[j] (eqD (l.getD j .non) (r.getD j .non))) ∧
        (∀ j (h1 : j < its.toArray.size) (h2 : j < jts.toArray.size), eqD (l.getD j .non) (r.getD j .non) = false → RcLt A.in1 s its.toArray[j] jts.toArray[j] (ltD (l.getD j .non) (r.getD j .non))) := by
      intro l r vs us its jts hl hr rv ru hv hw hz
      have base : ∀ j (h1 : j < its.toArray.size) (h2 : j < jts.toArray.size), ∃ v' w' k1 m1, k = k1 + 1 ∧ RelV v' its.toArray[j] ∧ RelV w' jts.toArray[j] ∧ Rp (kx X Z) H (l.getD j .non) v' ∧ Rp (kx X Z) H (r.getD j .non) w' ∧ datN k1 (l.getD j .non) = true ∧ datN m1 (r.getD j .non) = true := fun j h1 h2 => by
        obtain ⟨v', k1, k2, k3⟩ := sh_items rv hv h1
        obtain ⟨w', k4, k5, k6⟩ := sh_items ru hw h2
        obtain ⟨mx', e1, dx'⟩ := datN_sub dx ⟨l, hl, k3⟩
        obtain ⟨my', e2, dy'⟩ := datN_sub dy ⟨r, hr, k6⟩
        exact ⟨v', w', mx', my', e1, k1, k4, k2, k5, dx', dy'⟩
      refine ⟨fun j h1 h2 => ?_, fun j h1 h2 hne => ?_⟩
      · obtain ⟨v', w', k1, m1, rfl, q1, q2, q3, q4, q5, q6⟩ := base j h1 h2
        exact eqAtS I k1 m1 A.in1 _ _ v' w' _ _ (by show A.units + 1 + _ < cLine; omega) q5 q6 q3 q4 q1 q2
      · obtain ⟨v', w', k1, m1, rfl, q1, q2, q3, q4, q5, q6⟩ := base j h1 h2
        refine ih k1 m1 k' A.in1 _ _ v' w' _ _ (by show A.units + 1 + _ < cLine; omega) ?_ q5 q6 q3 q4 q1 q2
        have j1 : j < l.length := by rw [← hv.len, rv.length]; simpa using h1
        have j2 : j < r.length := by rw [← hw.len, ru.length]; simpa using h2
        have mem : (l.getD j .non, r.getD j .non) ∈ l.zip r := by
          have hj : j < (l.zip r).length := by simp; omega
          have : (l.zip r)[j] = (l.getD j .non, r.getD j .non) := by simp [List.getD, List.getElem?_eq_getElem j1, List.getElem?_eq_getElem j2]
          rw [← this]
          exact List.getElem_mem hj
        have this : (eqD (l.getD j .non) (r.getD j .non) || ltOk n (l.getD j .non) (r.getD j .non)) = true := List.all_eq_true.mp hz _ mem
        rw [hne, Bool.false_or] at this
        exact this
    cases x with
    | int i => cases y <;> first | (simp [ltOk] at hok; done) | exact flats A _ _ v w a b (.inl ⟨_, _, rfl, rfl⟩) hx hy ra rb
    | str i => cases y <;> first | (simp [ltOk] at hok; done) | exact flats A _ _ v w a b (.inr ⟨_, _, rfl, rfl⟩) hx hy ra rb
    | tup l =>
      cases y with
      | tup r =>
        obtain ⟨p, vs, its, rfl, hp, rv, hv⟩ := I.sh dx hx ra
        obtain ⟨q, us, jts, rfl, hq, ru, hw⟩ := I.sh dy hy rb
        obtain ⟨e1, e2⟩ := key l r vs us its jts (.inl rfl) (.inl rfl) rv ru hv hw (by simpa [ltOk] using hok)
        have z := RcLt.tuples hp hq (by omega) e1 e2
        simp only [List.size_toArray, ← rv.length, ← ru.length, hv.len, hw.len] at z
        simp only [ltD, ltDs_range]
        exact z
      | _ => simp [ltOk] at hok
    | lst l =>
      cases y with
      | lst r =>
        obtain ⟨p, vs, its, rfl, hp, rv, hv⟩ := I.sh dx hx ra
        obtain ⟨q, us, jts, rfl, hq, ru, hw⟩ := I.sh dy hy rb
        obtain ⟨e1, e2⟩ := key l r vs us its jts (.inr rfl) (.inr rfl) rv ru hv hw (by simpa [ltOk] using hok)
        have z := RcLt.lists hp hq (by omega) e1 e2
        simp only [List.size_toArray, ← rv.length, ← ru.length, hv.len, hw.len] at z
        simp only [ltD, ltDs_range]
        exact z
      | _ => simp [ltOk] at hok
    | _ => simp [ltOk] at hok
theorem eqAt_tree (I : Inv X pins σ H s) : ∀ (n m : Nat) (A : Around) (x y : D) (v w : V) (a b : Value), A.units + n < cLine → datN n x = true → datN m y = true → Rp (kx X Z) H x v → Rp (kx X Z) H y w → RelV v a → RelV w b → EqAt A s a b (eqD x y) := eqAtS (.of I)
theorem rcAt_tree (I : Inv X pins σ H s) {n m : Nat} {A : Around} {x y : D} {v w : V} {a b : Value} (hu : A.units + n < cLine) (dx : datN n x = true) (dy : datN m y = true) (hx : Rp (kx X Z) H x v) (hy : Rp (kx X Z) H y w) (ra : RelV v a) (rb : RelV w b) :
    RcAt A s a b (eqD x y) ∧ RcNeAt A s a b (!eqD x y) := rcAtS (.of I) hu dx dy hx hy ra rb
theorem ltAt_tree (I : Inv X pins σ H s) : ∀ (n : Nat) (k m k' : Nat) (A : Around) (x y : D) (v w : V) (a b : Value), A.units + k < cLine → ltOk n x y = true → datN k x = true → datN m y = true → Rp (kx X Z) H x v → Rp (kx X Z) H y w → RelV v a → RelV w b → RcLt A s a b (ltD x y) := ltAtS (.of I)
end
end NV

namespace NV
open PySem L2 SeqAt

section
variable {X : Cx} {Z : Zt} {pins : List (Addr × Obj)} {σ : St} {H : Hp} {s : Shared}
/-- a tree of data is known by its value -/
theorem rps_inj {n m : Nat} (hyp : ∀ x y v, datN n x = true → datN m y = true → Rp (kx X Z) H x v → Rp (kx X Z) H y v → x = y) : ∀ {l l' : List D} {vs : List V}, l.all (datN n) = true → l'.all (datN m) = true → Rps (kx X Z) H l vs → Rps (kx X Z) H l' vs → l = l'
  | [], l', vs, d, d', h, h' => by
    rw [h.unnil] at h'
    cases l' with
    | nil => rfl
    | cons y l' => obtain ⟨_, _, z, _⟩ := h'.uncons; cases z
  | x :: l, l', vs, d, d', h, h' => by
    obtain ⟨v, r, rfl, a1, a2⟩ := h.uncons
    cases l' with
    | nil => cases h'.unnil
    | cons y l' =>
      obtain ⟨v', r', z, b1, b2⟩ := h'.uncons
      cases z
      simp only [List.all_cons, Bool.and_eq_true] at d d'
      rw [hyp x y v d.1 d'.1 a1 b1, rps_inj hyp d.2 d'.2 a2 b2]
theorem rp_inj (I : Inv X pins σ H s) : ∀ (n m : Nat) (x y : D) (v : V), datN n x = true → datN m y = true → Rp (kx X Z) H x v → Rp (kx X Z) H y v → x = y := by
  intro n
  induction n with
  | zero =>
    intro m x y v dx dy hx hy
    cases x <;> first | (simp [datN] at dx; done) | skip
    all_goals
      simp only [Rp] at hx
      subst hx
      cases y <;> simp only [Rp] at hy <;> first | (obtain ⟨_, _, z, _⟩ := hy; cases z; done) | (obtain ⟨_, _, _, _, z, _⟩ := hy; cases z; done) | (obtain ⟨_, z, _⟩ := hy; cases z; done) | (cases hy; done) | (cases hy; rfl)
  | succ n ih =>
    intro m x y v dx dy hx hy
    cases x with
    | tup l =>
      simp only [Rp] at hx
      obtain ⟨a, vs, rfl, ha, hv⟩ := hx
      cases y with
      | tup l' =>
        simp only [Rp] at hy
        obtain ⟨b, us, z, hb, hu⟩ := hy
        cases z
        rw [I.tuple_inj hb ha] at hu
        cases m with
        | zero => simp [datN] at dy
        | succ m =>
          simp only [datN] at dx dy
          rw [rps_inj (ih m) dx dy hv hu]
      | lst l' =>
        simp only [Rp] at hy
        obtain ⟨b, us, z, hb, hu⟩ := hy
        cases z
        obtain ⟨_, _, p1, _⟩ := I.tuple ha
        obtain ⟨_, _, p2, _⟩ := I.list (.of hb)
        exact absurd rfl (SeqAt.ne_of_list_tuple p2.isList p1)
      | ins c l' => cases m <;> simp [datN] at dy
      | dct c l' => cases m <;> simp [datN] at dy
      | scr l' => cases m <;> simp [datN] at dy
      | _ => simp only [Rp] at hy; cases hy
    | lst l =>
      simp only [Rp] at hx
      obtain ⟨a, vs, rfl, ha, hv⟩ := hx
      cases y with
      | lst l' =>
        simp only [Rp] at hy
        obtain ⟨b, us, z, hb, hu⟩ := hy
        cases z
        rw [ha] at hb
        cases hb
        cases m with
        | zero => simp [datN] at dy
        | succ m =>
          simp only [datN] at dx dy
          rw [rps_inj (ih m) dx dy hv hu]
      | tup l' =>
        simp only [Rp] at hy
        obtain ⟨b, us, z, hb, hu⟩ := hy
        cases z
        obtain ⟨_, _, p1, _⟩ := I.tuple hb
        obtain ⟨_, _, p2, _⟩ := I.list (.of ha)
        exact absurd rfl (SeqAt.ne_of_list_tuple p2.isList p1)
      | ins c l' => cases m <;> simp [datN] at dy
      | dct c l' => cases m <;> simp [datN] at dy
      | scr l' => cases m <;> simp [datN] at dy
      | _ => simp only [Rp] at hy; cases hy
    | ins c l => simp [datN] at dx
    | dct c l => simp [datN] at dx
    | scr l => simp [datN] at dx
    | _ =>
      simp only [Rp] at hx
      subst hx
      cases y <;> simp only [Rp] at hy <;> first | (obtain ⟨_, _, z, _⟩ := hy; cases z; done) | (obtain ⟨_, _, _, _, z, _⟩ := hy; cases z; done) | (obtain ⟨_, z, _⟩ := hy; cases z; done) | (cases hy; done) | (cases hy; rfl)

/-! ### looked at -/
mutual
theorem rd_rp {k : Kx} {F H : Hp} {μ : Nat → Addr} {S : Sto} (s : StoOk k F H μ S) : ∀ (n : Nat) {w : W} {v : V} {d : D}, RpW k F μ S.length w v → rd S n w = some d → Rp k H d v
  | n, .v d, v, e, h, q => by
    have : some d = some e := by cases n <;> (unfold rd at q; exact q)
    cases this
    exact Rp.mono s.sub _ h
  | 0, .r m, v, e, h, q => by unfold rd at q; cases q
  | n + 1, .r m, v, e, h, q => by
    unfold rd at q
    obtain ⟨rfl, hm⟩ := h
    split at q
    · rename_i l hl
      obtain ⟨ds, q1, rfl⟩ := Option.map_eq_some_iff.mp q
      obtain ⟨vs, h1, h2, h3⟩ := s.cell _ _ hl
      unfold Rp
      exact ⟨_, vs, rfl, h1, rds_rp s n h3 q1⟩
    · rename_i l hl
      obtain ⟨ds, q1, rfl⟩ := Option.map_eq_some_iff.mp q
      obtain ⟨vs, h1, h2, h3⟩ := s.cell _ _ hl
      unfold Rp
      exact ⟨_, vs, rfl, .of h1, rds_rp s n h3 q1⟩
    · rename_i ks l hl
      obtain ⟨ds, q1, rfl⟩ := Option.map_eq_some_iff.mp q
      obtain ⟨vs, h1, h2, h3⟩ := s.cell _ _ hl
      unfold Rp
      exact ⟨_, vs, rfl, rds_rp s n h2 q1, h3⟩
    · rename_i c l hl
      obtain ⟨ds, q1, rfl⟩ := Option.map_eq_some_iff.mp q
      obtain ⟨dx, fs, vs, h1, h2, h3, h4⟩ := s.cell _ _ hl
      unfold Rp
      exact ⟨_, dx, fs, vs, rfl, h1, h3, rds_rp s n h4 q1⟩
    · cases q
theorem rds_rp {k : Kx} {F H : Hp} {μ : Nat → Addr} {S : Sto} (s : StoOk k F H μ S) : ∀ (n : Nat) {ws : List W} {vs : List V} {ds : List D}, RpWs k F μ S.length ws vs → rds S n ws = some ds → Rps k H ds vs
  | n, [], vs, ds, h, q => by
    have : some [] = some ds := by cases n <;> (unfold rds at q; exact q)
    cases this
    rw [show vs = [] from h]
    exact Rps.nil'
  | n, w :: ws, vs, ds, h, q => by
    obtain ⟨v, r, rfl, h2, h3⟩ := h
    unfold rds at q
    split at q
    · rename_i d hd
      obtain ⟨ds', q1, rfl⟩ := Option.map_eq_some_iff.mp q
      exact Rps.cons' (rd_rp s n h2 hd) (rds_rp s n h3 q1)
    · cases q
end
theorem look_rp {k : Kx} {F H : Hp} {μ : Nat → Addr} {S : Sto} (s : StoOk k F H μ S) {w : W} {v : V} {d : D} (h : RpW k F μ S.length w v) (q : look S w = some d) : Rp k H d v := rd_rp s 4 h q

theorem relV_inj : ∀ {v v' : V} {u : Value}, RelV v u → RelV v' u → v' = v := by
  intro v v' u r h
  cases v <;> (first | (obtain ⟨t, rfl⟩ := r) | (cases r)) <;> cases v' <;> (first | (obtain ⟨t', h⟩ := h; cases h; rfl) | (obtain ⟨t', h⟩ := h; cases h; done) | (cases h; rfl) | (cases h; done))
/-! ### comparisons of trees -/
def rTr (X : Cx) (Z : Zt) (p : D → D → Prop) (g : D → D → Bool) : R2 := fun x y H Q => ∃ a b, p a b ∧ Rp (kx X Z) H a x ∧ Rp (kx X Z) H b y ∧ Q (.bl (g a b)) H
theorem op_eqT (hu : X.A.units + 64 < cLine) : OpR X (compareOp .Eq) (rTr X Z (fun a b => datD a = true ∧ datD b = true) eqD) := by
  intro pins s σ H x y v u Q I rx ry h
  obtain ⟨a, b, ⟨da, db⟩, ha, hb, q⟩ := h
  exact (rcAt_tree I (by omega) da db ha hb rx ry).1 _ _ _ _ ⟨.bl _, H, I, rfl, q⟩
theorem op_neT (hu : X.A.units + 64 < cLine) : OpR X (compareOp .NotEq) (rTr X Z (fun a b => datD a = true ∧ datD b = true) (fun a b => !eqD a b)) := by
  intro pins s σ H x y v u Q I rx ry h
  obtain ⟨a, b, ⟨da, db⟩, ha, hb, q⟩ := h
  exact (rcAt_tree I (by omega) da db ha hb rx ry).2 _ _ _ _ ⟨.bl _, H, I, rfl, q⟩
theorem op_ltT (hu : X.A.units + 64 < cLine) : OpR X (compareOp .Lt) (rTr X Z (fun a b => datD a = true ∧ datD b = true ∧ ltOk 6 a b = true) ltD) := by
  intro pins s σ H x y v u Q I rx ry h
  obtain ⟨a, b, ⟨da, db, hl⟩, ha, hb, q⟩ := h
  exact ltAt_tree I 6 6 6 6 X.A a b x y v u (by omega) hl da db ha hb rx ry _ _ _ _ ⟨.bl _, H, I, rfl, q⟩
open Classical in
/-- the items' equality with x, by value -/
noncomputable def eT (X : Cx) (Z : Zt) (H : Hp) (l : List D) (x : D) (y : Value) : Bool := if h : ∃ d v, d ∈ l ∧ RelV v y ∧ Rp (kx X Z) H d v then eqD h.choose x else false
theorem eT_of (I : Inv X pins σ H s) {n : Nat} {l : List D} {x d : D} {v : V} {y : Value} (dl : l.all (datN n) = true) (hm : d ∈ l) (r : RelV v y) (hd : Rp (kx X Z) H d v) : eT X Z H l x y = eqD d x := by
  have h : ∃ d v, d ∈ l ∧ RelV v y ∧ Rp (kx X Z) H d v := ⟨d, v, hm, r, hd⟩
  unfold eT
  rw [dif_pos h]
  obtain ⟨v', h1, h2, h3⟩ := h.choose_spec
  have ev : v' = v := relV_inj r h2
  rw [ev] at h3
  rw [rp_inj I n n _ _ v (List.all_eq_true.mp dl _ h1) (List.all_eq_true.mp dl _ hm) h3 hd]
theorem any_eT (I : Inv X pins σ H s) {n : Nat} {l : List D} {x : D} (dl : l.all (datN n) = true) : ∀ {l' : List D} {vs : List V} {its : List Value}, (∀ d ∈ l', d ∈ l) → Vals vs its → Rps (kx X Z) H l' vs → its.any (eT X Z H l x) = l'.any fun y => eqD y x
  | [], vs, its, hm, r, h => by
    rw [h.unnil] at r
    cases r
    rfl
  | d :: l', vs, its, hm, r, h => by
    obtain ⟨v, t, rfl, h1, h2⟩ := h.uncons
    cases r with
    | cons r1 r2 =>
      simp only [List.any_cons]
      rw [eT_of I dl (hm d (by simp)) r1 h1, any_eT I dl (fun z hz => hm z (by simp [hz])) r2 h2]
theorem mem_eT (I : Inv X pins σ H s) {A : Around} {l : List D} {x : D} {v : V} {u : Value} (hu : A.units + 64 < cLine) (dl : l.all (datN 5) = true) (dx : datD x = true) (hx : Rp (kx X Z) H x v) (rx : RelV v u) {vs : List V} {its : List Value} (r : Vals vs its) (h : Rps (kx X Z) H l vs) :
    ∀ y, y ∈ its.toArray → EqAt A.in1 s y u (eT X Z H l x y) := by
  intro y hy
  obtain ⟨j, hj, e⟩ := List.getElem_of_mem (show y ∈ its by simpa using hy)
  have hj' : j < l.length := by rw [← h.len, r.length]; exact hj
  obtain ⟨v', g1, g2⟩ := h.getD hj'
  obtain ⟨u', g3, g4⟩ := r.get g1
  have eu : u' = y := by
    rw [List.getElem?_eq_getElem hj, e] at g3
    exact (Option.some.inj g3).symm
  subst eu
  have hm := getD_mem hj'
  rw [eT_of I dl hm g4 g2]
  exact eqAt_tree I 5 6 A.in1 _ x v' v _ u (by show A.units + 1 + 5 < cLine; omega) (List.all_eq_true.mp dl _ hm) dx g2 hx g4 rx
def rInT (X : Cx) (Z : Zt) (neg : Bool) : R2 := fun x y H Q => ∃ (a : D) (l : List D) (p : Addr) (vs : List V), y = .ref p ∧ (SqL X.K H p vs ∨ SqT X.K H p vs) ∧ Rps (kx X Z) H l vs ∧ datD a = true ∧ datDs l = true ∧ Rp (kx X Z) H a x ∧ Q (.bl (if neg then !inD a l else inD a l)) H
theorem op_inT (hu : X.A.units + 64 < cLine) : OpR X (compareOp .In) (rInT X Z false) := by
  intro pins s σ H x y v u Q I rx ry h
  obtain ⟨a, l, p, vs, rfl, hq, hv, da, dl, ha, q⟩ := h
  cases ry
  rcases hq with hq | hq
  · obtain ⟨its, r, pl, hz⟩ := I.list hq
    refine SeqAt.in_listAt (eT X Z H l a) pl.isList (mem_eT I hu dl da ha rx r hv) ⟨.bl _, H, I, rfl, ?_⟩
    rw [show its.toArray.any (eT X Z H l a) = its.any (eT X Z H l a) by simp, any_eT I dl (fun _ h => h) r hv]
    exact q
  · obtain ⟨its, r, pl, hz⟩ := I.tuple hq
    refine SeqAt.in_tupleAt (eT X Z H l a) pl (mem_eT I hu dl da ha rx r hv) ⟨.bl _, H, I, rfl, ?_⟩
    rw [show its.toArray.any (eT X Z H l a) = its.any (eT X Z H l a) by simp, any_eT I dl (fun _ h => h) r hv]
    exact q
theorem op_notInT (hu : X.A.units + 64 < cLine) : OpR X (compareOp .NotIn) (rInT X Z true) := by
  intro pins s σ H x y v u Q I rx ry h
  obtain ⟨a, l, p, vs, rfl, hq, hv, da, dl, ha, q⟩ := h
  cases ry
  rcases hq with hq | hq
  · obtain ⟨its, r, pl, hz⟩ := I.list hq
    refine SeqAt.notIn_listAt (eT X Z H l a) pl.isList (mem_eT I hu dl da ha rx r hv) ⟨.bl _, H, I, rfl, ?_⟩
    rw [show its.toArray.any (eT X Z H l a) = its.any (eT X Z H l a) by simp, any_eT I dl (fun _ h => h) r hv]
    exact q
  · obtain ⟨its, r, pl, hz⟩ := I.tuple hq
    refine SeqAt.notIn_tupleAt (eT X Z H l a) pl (mem_eT I hu dl da ha rx r hv) ⟨.bl _, H, I, rfl, ?_⟩
    rw [show its.toArray.any (eT X Z H l a) = its.any (eT X Z H l a) by simp, any_eT I dl (fun _ h => h) r hv]
    exact q
end
end NV

/-! sorted: pairs of one shape -/
namespace NV
open PySem L2 SeqAt
/-! ### the order of a shape -/
theorem hasShp_pair {a b : Shp} {d : D} (h : hasShp (.p a b) d = true) : ∃ x y, d = .tup [x, y] ∧ hasShp a x = true ∧ hasShp b y = true := by
  match d, h with
  | .tup [x, y], h =>
    simp only [hasShp, Bool.and_eq_true] at h
    exact ⟨x, y, rfl, h.1, h.2⟩
theorem ltD_pair (x y x' y' : D) : ltD (.tup [x, y]) (.tup [x', y']) = if eqD x x' then (if eqD y y' then false else ltD y y') else ltD x x' := by
  simp only [ltD, ltDs]
  rfl
theorem shp_eq : ∀ (h : Shp) (x y : D), hasShp h x = true → hasShp h y = true → (eqD x y = true ↔ x = y)
  | .s, x, y, hx, hy => by
    cases x <;> first | (cases hx; done) | skip
    cases y <;> first | (cases hy; done) | skip
    simp [eqD, eqF]
  | .i, x, y, hx, hy => by
    cases x <;> first | (cases hx; done) | skip
    cases y <;> first | (cases hy; done) | skip
    simp [eqD, eqF]
  | .p a b, x, y, hx, hy => by
    obtain ⟨x1, x2, rfl, q1, q2⟩ := hasShp_pair hx
    obtain ⟨y1, y2, rfl, r1, r2⟩ := hasShp_pair hy
    simp [eqD, eqDs, shp_eq a x1 y1 q1 r1, shp_eq b x2 y2 q2 r2]
theorem shp_irr : ∀ (h : Shp) (x : D), hasShp h x = true → ltD x x = false
  | .s, x, hx => by
    cases x <;> first | (cases hx; done) | skip
    simp [ltD, List.lt_irrefl]
  | .i, x, hx => by
    cases x <;> first | (cases hx; done) | skip
    simp [ltD]
  | .p a b, x, hx => by
    obtain ⟨x1, x2, rfl, q1, q2⟩ := hasShp_pair hx
    rw [ltD_pair, if_pos ((shp_eq a x1 x1 q1 q1).mpr rfl), if_pos ((shp_eq b x2 x2 q2 q2).mpr rfl)]
/-- one of the two is less, if they differ; not both -/
theorem shp_tri : ∀ (h : Shp) (x y : D), hasShp h x = true → hasShp h y = true → x ≠ y → (ltD x y = true ∧ ltD y x = false) ∨ (ltD x y = false ∧ ltD y x = true)
  | .s, x, y, hx, hy, ne => by
    cases x <;> first | (cases hx; done) | skip
    cases y <;> first | (cases hy; done) | skip
    rename_i a b
    have ne' : a.cps.toList ≠ b.cps.toList := fun e => ne (by cases a; cases b; simp only [D.str.injEq, Str.mk.injEq]; exact Array.toList_inj.mp e)
    simp only [ltD, decide_eq_true_eq, decide_eq_false_iff_not]
    rcases (show a.cps.toList < b.cps.toList ∨ b.cps.toList ≤ a.cps.toList from by by_cases h : a.cps.toList < b.cps.toList; exact .inl h; exact .inr (List.not_lt.mp h)) with h | h
    · exact .inl ⟨h, List.lt_asymm h⟩
    · rcases List.le_iff_lt_or_eq.mp h with h' | h'
      · exact .inr ⟨List.lt_asymm h', h'⟩
      · exact absurd h'.symm ne'
  | .i, x, y, hx, hy, ne => by
    cases x <;> first | (cases hx; done) | skip
    cases y <;> first | (cases hy; done) | skip
    rename_i a b
    have ne' : a ≠ b := fun e => ne (by rw [e])
    simp only [ltD, decide_eq_true_eq, decide_eq_false_iff_not]
    omega
  | .p a b, x, y, hx, hy, ne => by
    obtain ⟨x1, x2, rfl, q1, q2⟩ := hasShp_pair hx
    obtain ⟨y1, y2, rfl, r1, r2⟩ := hasShp_pair hy
    rw [ltD_pair, ltD_pair]
    by_cases e : x1 = y1
    · subst e
      have e2 : x2 ≠ y2 := fun z => ne (by rw [z])
      have n1 : eqD x2 y2 = false := by
        cases h : eqD x2 y2 with
        | false => rfl
        | true => exact absurd ((shp_eq b x2 y2 q2 r2).mp h) e2
      have n2 : eqD y2 x2 = false := by
        cases h : eqD y2 x2 with
        | false => rfl
        | true => exact absurd ((shp_eq b y2 x2 r2 q2).mp h).symm e2
      rw [if_pos ((shp_eq a x1 x1 q1 q1).mpr rfl), if_pos ((shp_eq a x1 x1 q1 q1).mpr rfl), n1, n2]
      exact shp_tri b x2 y2 q2 r2 e2
    · have n1 : eqD x1 y1 = false := by
        cases h : eqD x1 y1 with
        | false => rfl
        | true => exact absurd ((shp_eq a x1 y1 q1 r1).mp h) e
      have n2 : eqD y1 x1 = false := by
        cases h : eqD y1 x1 with
        | false => rfl
        | true => exact absurd ((shp_eq a y1 x1 r1 q1).mp h).symm e
      rw [n1, n2]
      exact shp_tri a x1 y1 q1 r1 e
theorem shp_tr : ∀ (h : Shp) (x y z : D), hasShp h x = true → hasShp h y = true → hasShp h z = true → ltD x y = true → ltD y z = true → ltD x z = true
  | .s, x, y, z, hx, hy, hz, h1, h2 => by
    cases x <;> first | (cases hx; done) | skip
    cases y <;> first | (cases hy; done) | skip
    cases z <;> first | (cases hz; done) | skip
    simp only [ltD, decide_eq_true_eq] at h1 h2 ⊢
    exact List.lt_trans h1 h2
  | .i, x, y, z, hx, hy, hz, h1, h2 => by
    cases x <;> first | (cases hx; done) | skip
    cases y <;> first | (cases hy; done) | skip
    cases z <;> first | (cases hz; done) | skip
    simp only [ltD, decide_eq_true_eq] at h1 h2 ⊢
    omega
  | .p a b, x, y, z, hx, hy, hz, h1, h2 => by
    obtain ⟨x1, x2, rfl, q1, q2⟩ := hasShp_pair hx
    obtain ⟨y1, y2, rfl, r1, r2⟩ := hasShp_pair hy
    obtain ⟨z1, z2, rfl, t1, t2⟩ := hasShp_pair hz
    rw [ltD_pair] at h1 h2 ⊢
    have E : ∀ (h : Shp) (u v : D), hasShp h u = true → hasShp h v = true → u ≠ v → eqD u v = false := fun h u v hu hv ne => by
      cases e : eqD u v with
      | false => rfl
      | true => exact absurd ((shp_eq h u v hu hv).mp e) ne
    have R : ∀ (h : Shp) (u : D), hasShp h u = true → eqD u u = true := fun h u hu => (shp_eq h u u hu hu).mpr rfl
    by_cases e1 : x1 = y1
    · subst e1
      rw [R a x1 q1, if_pos rfl] at h1
      by_cases e2 : x1 = z1
      · subst e2
        rw [R a x1 q1, if_pos rfl] at h2 ⊢
        by_cases f1 : x2 = y2
        · subst f1; rw [R b x2 q2, if_pos rfl] at h1; cases h1
        · by_cases f2 : y2 = z2
          · subst f2; rw [R b y2 r2, if_pos rfl] at h2; cases h2
          · rw [E b x2 y2 q2 r2 f1] at h1
            rw [E b y2 z2 r2 t2 f2] at h2
            have h3 := shp_tr b x2 y2 z2 q2 r2 t2 h1 h2
            have f3 : x2 ≠ z2 := fun e => by rw [e, shp_irr b z2 t2] at h3; cases h3
            rw [E b x2 z2 q2 t2 f3]
            exact h3
      · rw [E a x1 z1 q1 t1 e2] at h2 ⊢
        exact h2
    · rw [E a x1 y1 q1 r1 e1] at h1
      by_cases e2 : y1 = z1
      · subst e2
        rw [E a x1 y1 q1 r1 e1]
        exact h1
      · rw [E a y1 z1 r1 t1 e2] at h2
        have h3 := shp_tr a x1 y1 z1 q1 r1 t1 h1 h2
        have e3 : x1 ≠ z1 := fun e => by rw [e, shp_irr a z1 t1] at h3; cases h3
        rw [E a x1 z1 q1 t1 e3]
        exact h3
/-- not above -/
theorem shp_le_tr {h : Shp} {x y z : D} (hx : hasShp h x = true) (hy : hasShp h y = true) (hz : hasShp h z = true) (h1 : ltD y x = false) (h2 : ltD z y = false) : ltD z x = false := by
  by_cases e1 : x = y
  · subst e1; exact h2
  · by_cases e2 : y = z
    · subst e2; exact h1
    · have a1 := (shp_tri h x y hx hy e1).resolve_right fun ⟨_, q⟩ => by rw [h1] at q; cases q
      have a2 := (shp_tri h y z hy hz e2).resolve_right fun ⟨_, q⟩ => by rw [h2] at q; cases q
      have a3 := shp_tr h x y z hx hy hz a1.1 a2.1
      cases e : ltD z x with
      | false => rfl
      | true =>
        have := shp_tr h x z x hx hz hx a3 e
        rw [shp_irr h x hx] at this
        cases this
theorem shp_anti {h : Shp} {x y : D} (hx : hasShp h x = true) (hy : hasShp h y = true) (h1 : ltD y x = false) (h2 : ltD x y = false) : x = y := by
  by_cases e : x = y
  · exact e
  · rcases shp_tri h x y hx hy e with ⟨q, _⟩ | ⟨_, q⟩
    · rw [h2] at q; cases q
    · rw [h1] at q; cases q
theorem pw_of_mem {α : Type} {r : α → α → Prop} {l : List α} (h : l.Pairwise r) : l.Pairwise fun a b => a ∈ l ∧ b ∈ l ∧ r a b := by
  induction h with
  | nil => exact .nil
  | @cons a l h1 _ ih => exact .cons (fun b hb => ⟨by simp, by simp [hb], h1 b hb⟩) (ih.imp fun ⟨p, q, r⟩ => ⟨by simp [p], by simp [q], r⟩)
theorem sortT_perm (l : List D) : (sortT l).Perm l := List.mergeSort_perm _ _
theorem sorted_uniq {h : Shp} : ∀ {l m : List D}, (∀ d ∈ l, hasShp h d = true) → l.Perm m → l.Pairwise (fun a b => ltD b a = false) → m.Pairwise (fun a b => ltD b a = false) → l = m
  | [], m, _, p, _, _ => (List.nil_perm.mp p).symm
  | a :: l, [], _, p, _, _ => absurd p.length_eq (by simp)
  | a :: l, b :: m, hs, p, h1, h2 => by
    have hm : ∀ d ∈ b :: m, hasShp h d = true := fun d hd => hs d (p.mem_iff.mpr hd)
    have hab : a = b := by
      have ha : a ∈ b :: m := p.mem_iff.mp List.mem_cons_self
      have hb : b ∈ a :: l := p.mem_iff.mpr List.mem_cons_self
      rcases List.mem_cons.mp ha with e | ha
      · exact e
      · rcases List.mem_cons.mp hb with e | hb
        · exact e.symm
        · exact shp_anti (hs a (by simp)) (hm b (by simp)) ((List.pairwise_cons.mp h1).1 b hb) ((List.pairwise_cons.mp h2).1 a ha)
    subst hab
    rw [sorted_uniq (fun d hd => hs d (by simp [hd])) (List.Perm.cons_inv p) (List.pairwise_cons.mp h1).2 (List.pairwise_cons.mp h2).2]
theorem ms_pw {α : Type} (le : α → α → Bool) (P : α → Prop) (tr : ∀ a b c, P a → P b → P c → le a b = true → le b c = true → le a c = true) (to : ∀ a b, P a → P b → (le a b || le b a) = true) (l : List α) (hl : ∀ a ∈ l, P a) : (l.mergeSort le).Pairwise fun a b => le a b = true := by
  let l' : List { a // P a } := l.attach.map fun x => ⟨x.1, hl x.1 x.2⟩
  have e : l = l'.map Subtype.val := by simp [l']
  have h := List.pairwise_mergeSort (le := fun a b : { a // P a } => le a.1 b.1) (fun a b c => tr a.1 b.1 c.1 a.2 b.2 c.2) (fun a b => to a.1 b.1 a.2 b.2) l'
  have hm : l.mergeSort le = (l'.mergeSort fun a b => le a.1 b.1).map Subtype.val := by
    rw [List.map_mergeSort (r := fun a b : { a // P a } => le a.1 b.1) (s := le) (fun a _ b _ => rfl), ← e]
  rw [hm, List.pairwise_map]
  exact h
theorem sortT_pw {h : Shp} {l : List D} (hl : ∀ d ∈ l, hasShp h d = true) : (sortT l).Pairwise fun a b => ltD b a = false := by
  have := ms_pw (fun a b => !ltD b a) (fun d => hasShp h d = true) (fun a b c ha hb hc h1 h2 => by
    simp only [Bool.not_eq_true'] at h1 h2 ⊢
    exact shp_le_tr ha hb hc h1 h2) (fun a b ha hb => by
    by_cases e : a = b
    · subst e; simp [shp_irr h a ha]
    · rcases shp_tri h a b ha hb e with ⟨_, q⟩ | ⟨q, _⟩ <;> simp [q]) l hl
  exact this.imp fun q => by simpa using q
theorem sortT_uniq {h : Shp} {l m : List D} (hl : ∀ d ∈ l, hasShp h d = true) (p : m.Perm l) (q : m.Pairwise fun a b => ltD b a = false) : m = sortT l :=
  sorted_uniq (h := h) (fun d hd => hl d (p.mem_iff.mp hd)) (p.trans (sortT_perm l).symm) q (sortT_pw hl)

section
variable {X : Cx} {Z : Zt} {pins : List (Addr × Obj)} {σ : St} {H : Hp} {s : Shared}
theorem ShA.keeps (I : ShA X Z H s) {h' : Heap} (keep : ∀ b o, s.heap.get? b = some o → h'.get? b = some o) : ShA X Z H { s with heap := h' } := ⟨fun {n x v u} d h r => by
    have q := I.sh d h r
    cases x with
    | tup l => obtain ⟨a, vs, its, e, p, z⟩ := q; exact ⟨a, vs, its, e, p.at fun o ho => keep a o ho, z⟩
    | lst l => obtain ⟨a, vs, its, e, ⟨o, ho, r⟩, z⟩ := q; exact ⟨a, vs, its, e, ⟨o, keep a o ho, r⟩, z⟩
    | _ => exact q, I.same⟩
theorem shp_dat : ∀ (h : Shp) (x : D) (n : Nat), hasShp h x = true → shpDep h ≤ n → datN n x = true
  | .s, x, n, hx, _ => by cases x <;> first | (cases hx; done) | (cases n <;> rfl)
  | .i, x, n, hx, _ => by cases x <;> first | (cases hx; done) | (cases n <;> rfl)
  | .p a b, x, n, hx, hn => by
    obtain ⟨x1, x2, rfl, q1, q2⟩ := hasShp_pair hx
    simp only [shpDep] at hn
    cases n with
    | zero => omega
    | succ n => simp [datN, shp_dat a x1 n q1 (by omega), shp_dat b x2 n q2 (by omega)]
theorem shp_ltOk : ∀ (h : Shp) (x y : D) (n : Nat), hasShp h x = true → hasShp h y = true → shpDep h ≤ n → ltOk n x y = true
  | .s, x, y, n, hx, hy, _ => by
    cases x <;> first | (cases hx; done) | skip
    cases y <;> first | (cases hy; done) | (cases n <;> rfl)
  | .i, x, y, n, hx, hy, _ => by
    cases x <;> first | (cases hx; done) | skip
    cases y <;> first | (cases hy; done) | (cases n <;> rfl)
  | .p a b, x, y, n, hx, hy, hn => by
    obtain ⟨x1, x2, rfl, q1, q2⟩ := hasShp_pair hx
    obtain ⟨y1, y2, rfl, r1, r2⟩ := hasShp_pair hy
    simp only [shpDep] at hn
    cases n with
    | zero => omega
    | succ n => simp [ltOk, shp_ltOk a x1 y1 n q1 r1 (by omega), shp_ltOk b x2 y2 n q2 r2 (by omega)]
/-- what a value of the list stands for -/
def Stands (X : Cx) (Z : Zt) (H : Hp) (h : Shp) (u : Value) (d : D) : Prop := hasShp h d = true ∧ ∃ v, Rp (kx X Z) H d v ∧ RelV v u
theorem stands_uniq (I : ShA X Z H s) {a b : Shp} {u : Value} {d e : D} (hn : shpDep (.p a b) ≤ 5) (h1 : Stands X Z H (.p a b) u d) (h2 : Stands X Z H (.p a b) u e) : d = e := by
  obtain ⟨q1, v, r1, t1⟩ := h1
  obtain ⟨q2, w, r2, t2⟩ := h2
  have e1 : v = w := by
    obtain ⟨x1, x2, rfl, _, _⟩ := hasShp_pair q1
    obtain ⟨y1, y2, rfl, _, _⟩ := hasShp_pair q2
    simp only [Rp] at r1 r2
    obtain ⟨p, _, rfl, _⟩ := r1
    obtain ⟨p', _, rfl, _⟩ := r2
    have t1 : u = .ref p := t1
    have t2 : u = .ref p' := t2
    rw [t1] at t2
    cases t2
    rfl
  subst e1
  exact (shp_eq _ d e q1 q2).mp (I.same 6 6 d e v (shp_dat _ d 6 q1 (by omega)) (shp_dat _ e 6 q2 (by omega)) r1 r2)
def dflt : Shp → D
  | .s => .str ⟨#[]⟩
  | .i => .int 0
  | .p a b => .tup [dflt a, dflt b]
theorem dflt_has : ∀ h : Shp, hasShp h (dflt h) = true
  | .s => rfl
  | .i => rfl
  | .p a b => by simp [dflt, hasShp, dflt_has a, dflt_has b]
open Classical in
noncomputable def keyOf (X : Cx) (Z : Zt) (H : Hp) (h : Shp) (u : Value) : D := if q : ∃ d, Stands X Z H h u d then q.choose else dflt h
theorem keyOf_has {h : Shp} (u : Value) : hasShp h (keyOf X Z H h u) = true := by
  unfold keyOf
  split
  · rename_i q; exact q.choose_spec.1
  · exact dflt_has h
theorem keyOf_is (I : ShA X Z H s) {a b : Shp} {u : Value} {d : D} (hn : shpDep (.p a b) ≤ 5) (h : Stands X Z H (.p a b) u d) : keyOf X Z H (.p a b) u = d := by
  unfold keyOf
  rw [dif_pos ⟨d, h⟩]
  exact stands_uniq I hn (Exists.choose_spec (⟨d, h⟩ : ∃ d, Stands X Z H (.p a b) u d)) h
theorem swo_key (h : Shp) : SrtO.Swo fun v u => ltD (keyOf X Z H h v) (keyOf X Z H h u) := by
  refine ⟨fun x y q => ?_, fun x y z h1 h2 => shp_le_tr (keyOf_has x) (keyOf_has y) (keyOf_has z) h1 h2⟩
  cases e : ltD (keyOf X Z H h y) (keyOf X Z H h x) with
  | false => rfl
  | true =>
    have := shp_tr h _ _ _ (keyOf_has x) (keyOf_has y) (keyOf_has x) q e
    rw [shp_irr h _ (keyOf_has x)] at this
    cases this
/-- the two parts of a pair -/
theorem pair_parts (I : ShA X Z H s) {a b : Shp} {u : Value} {x y : D} (hn : shpDep (.p a b) ≤ 5) (h : Stands X Z H (.p a b) u (.tup [x, y])) : ∃ p o n u1 u2, u = .ref p ∧ s.heap.get? p = some o ∧ o.cls = .type "tuple" ∧ o.data = .seq #[u1, u2] n ∧ (∃ v, Rp (kx X Z) H x v ∧ RelV v u1) ∧ ∃ v, Rp (kx X Z) H y v ∧ RelV v u2 := by
  obtain ⟨q1, v, r1, t1⟩ := h
  obtain ⟨p, vs, its, e, ⟨o, ho, hc, n, hd⟩, rv, hv⟩ := I.sh (shp_dat _ _ 6 q1 (by omega)) r1 t1
  obtain ⟨v1, r, rfl, hv1, hv⟩ := hv.uncons
  obtain ⟨v2, r, rfl, hv2, hv⟩ := hv.uncons
  have := hv.unnil
  subst this
  cases rv with
  | cons t1 rv =>
    cases rv with
    | cons t2 rv =>
      cases rv
      exact ⟨p, o, n, _, _, e, ho, hc, hd, ⟨v1, hv1, t1⟩, ⟨v2, hv2, t2⟩⟩
def firstStr : Shp → Bool
  | .s => true
  | .i => true
  | .p _ _ => false
theorem one_lt (I : ShA X Z H s) {A : Around} (hu : A.units + 20 < cLine) {h : Shp} (hn : shpDep h ≤ 5) {x y : D} {u w : Value} (hx : hasShp h x = true) (hy : hasShp h y = true) (rx : ∃ v, Rp (kx X Z) H x v ∧ RelV v u) (ry : ∃ v, Rp (kx X Z) H y v ∧ RelV v w) (c : Bool) (hc : c = true → firstStr h = true) {prog : Program} {wd : World} {Q : Bool → Shared → Prop} {E : Value → Shared → Prop} (q : Q (ltD x y) s) :
    wpAny (model prog wd) A (PyProof.Rows.oneLt' c u w) Q E s := by
  obtain ⟨v, rx, tx⟩ := rx
  obtain ⟨v', ry, ty⟩ := ry
  have gen : wpAny (model prog wd) A (PyProof.Rows.oneLt' false u w) Q E s :=
    PySem.W.kat_one u w (ltAtS I 6 6 6 6 A x y v v' u w (by omega) (shp_ltOk h x y 6 hx hy (by omega)) (shp_dat h x 6 hx (by omega)) (shp_dat h y 6 hy (by omega)) rx ry tx ty prog wd E _ q)
  cases c with
  | false => exact gen
  | true =>
    cases h with
    | p a b => exact absurd (hc rfl) (by simp [firstStr])
    | s =>
      cases x <;> first | (cases hx; done) | skip
      cases y <;> first | (cases hy; done) | skip
      simp only [Rp] at rx ry
      subst rx ry
      obtain ⟨t, rfl⟩ := tx
      obtain ⟨t', rfl⟩ := ty
      exact PyProof.Rows.oneLt_str (by simpa [ltD] using q)
    | i =>
      cases x <;> first | (cases hx; done) | skip
      cases y <;> first | (cases hy; done) | skip
      simp only [Rp] at rx ry
      subst rx ry
      obtain ⟨t, rfl⟩ := tx
      obtain ⟨t', rfl⟩ := ty
      exact PyProof.Rows.oneLt_int (by simpa [ltD] using q)
open PyProof.Rows in
theorem shp_cmp (I : ShA X Z H s) {A : Around} (hu : A.units + 20 < cLine) {a b : Shp} (hn : shpDep (.p a b) ≤ 5) {us : List Value} (hs : ∀ u ∈ us, ∃ d, Stands X Z H (.p a b) u d) (c : Bool) (hc : c = true → firstStr a = true) {prog : Program} {w : World} :
    SrtO.Cmp prog w A s (tuples' c) (fun p => p.1 ∈ us) (SrtO.lt2 fun v u => ltD (keyOf X Z H (.p a b) v) (keyOf X Z H (.p a b) u)) := by
  intro p q hp hq
  obtain ⟨d, hd⟩ := hs _ hp
  obtain ⟨e, he⟩ := hs _ hq
  show wpAny (model prog w) A (keyLt' (tuples' c) p.1 q.1) (fun r s' => s' = s ∧ r = ltD (keyOf X Z H (.p a b) p.1) (keyOf X Z H (.p a b) q.1)) (fun _ _ => False) s
  rw [keyOf_is I hn hd, keyOf_is I hn he]
  obtain ⟨x1, x2, rfl, q1, q2⟩ := hasShp_pair hd.1
  obtain ⟨y1, y2, rfl, r1, r2⟩ := hasShp_pair he.1
  obtain ⟨ap, o, n, u1, u2, e1, ho, _, hda, hx1, hx2⟩ := pair_parts I hn hd
  obtain ⟨aq, o', n', w1, w2, e2, ho', _, hda', hy1, hy2⟩ := pair_parts I hn he
  rw [e1, e2]
  simp only [shpDep] at hn
  have eqs : ∀ (h : Shp) (x y : D) (u w : Value), shpDep h ≤ 5 → hasShp h x = true → hasShp h y = true → (∃ v, Rp (kx X Z) H x v ∧ RelV v u) → (∃ v, Rp (kx X Z) H y v ∧ RelV v w) → EqAt A s u w (eqD x y) := fun h x y u w hh hx hy ⟨v, rx, tx⟩ ⟨v', ry, ty⟩ =>
    eqAtS I 6 6 A x y v v' u w (by omega) (shp_dat h x 6 hx (by omega)) (shp_dat h y 6 hy (by omega)) rx ry tx ty
  refine PySem.W.kat_lt ho hda ho' hda' ?_
  show PySem.W.KatLex prog w A c (decide (2 < 2)) _ [(u1, w1), (u2, w2)] 0 s
  rw [ltD_pair]
  refine PySem.W.kat_cons (eqs a x1 y1 u1 w1 (by omega) q1 r1 hx1 hy1 prog w _ _ ?_)
  refine PySem.W.kat_go (fun z => ?_) (fun z => ?_)
  · rw [z]
    refine PySem.W.kat_yes (PySem.W.kat_cons (eqs b x2 y2 u2 w2 (by omega) q2 r2 hx2 hy2 prog w _ _ ?_))
    refine PySem.W.kat_go (fun z2 => ?_) (fun z2 => ?_)
    · rw [z2]
      exact PySem.W.kat_yes (PySem.W.kat_nil ⟨rfl, by simp⟩)
    · rw [z2]
      refine PySem.W.kat_no ?_
      have : (c && (0 + 1 == 0)) = false := by simp
      rw [this]
      exact one_lt I hu (h := b) (by omega) q2 r2 hx2 hy2 false (fun z => by cases z) ⟨rfl, by simp⟩
  · rw [z]
    refine PySem.W.kat_no ?_
    have : (c && (0 == 0)) = c := by simp
    rw [this]
    exact one_lt I hu (h := a) (by omega) q1 r1 hx1 hy1 c hc ⟨rfl, by simp⟩
/-- the kind of the first parts -/
def kindV : Shp → Value
  | .s => .type "str"
  | .i => .type "int"
  | .p _ _ => .type "tuple"
theorem shp_first (I : ShA X Z H s) {h : Shp} (hn : shpDep h ≤ 5) {x : D} {u : Value} (hx : hasShp h x = true) (rx : ∃ v, Rp (kx X Z) H x v ∧ RelV v u) {M : Model} : PySem.W.Looks M s.heap (typeOf u) (kindV h) := by
  obtain ⟨v, rx, tx⟩ := rx
  cases h with
  | s =>
    cases x <;> first | (cases hx; done) | skip
    simp only [Rp] at rx
    subst rx
    obtain ⟨t, rfl⟩ := tx
    exact PySem.W.Looks.now
  | i =>
    cases x <;> first | (cases hx; done) | skip
    simp only [Rp] at rx
    subst rx
    obtain ⟨t, rfl⟩ := tx
    exact PySem.W.Looks.now
  | p a b =>
    obtain ⟨x1, x2, rfl, q1, q2⟩ := hasShp_pair hx
    obtain ⟨ap, o, n, u1, u2, rfl, ho, hcl, _⟩ := pair_parts I hn ⟨hx, v, rx, tx⟩
    have : PySem.W.Looks M s.heap (typeOf (.ref ap)) o.cls := (PySem.W.Looks.ld ho).andThen .now
    rw [hcl] at this
    exact this
theorem shp_tups (I : ShA X Z H s) {a b : Shp} (hn : shpDep (.p a b) ≤ 5) {M : Model} : ∀ {us : List Value}, (∀ u ∈ us, ∃ d, Stands X Z H (.p a b) u d) → ∃ fs, PySem.W.KatTups s.heap us fs ∧ fs.length = us.length ∧ ∀ v ∈ fs, PySem.W.Looks M s.heap (typeOf v) (kindV a)
  | [], _ => ⟨[], PySem.W.KatTups.nil, rfl, by simp⟩
  | u :: us, h => by
    obtain ⟨fs, h1, h2, h3⟩ := shp_tups I hn (M := M) (us := us) fun v hv => h v (by simp [hv])
    obtain ⟨d, hd⟩ := h u (by simp)
    obtain ⟨x1, x2, rfl, q1, q2⟩ := hasShp_pair hd.1
    obtain ⟨ap, o, n, u1, u2, rfl, ho, hcl, hda, hx1, hx2⟩ := pair_parts I hn hd
    simp only [shpDep] at hn
    refine ⟨u1 :: fs, PySem.W.KatTups.cons ho hcl hda rfl h1, by simp [h2], fun v hv => ?_⟩
    rcases List.mem_cons.mp hv with rfl | hv
    · exact shp_first I (by omega) q1 hx1
    · exact h3 v hv
theorem shp_sortable (I : ShA X Z H s) {A : Around} (hu : A.units + 20 < cLine) {a b : Shp} (hn : shpDep (.p a b) ≤ 5) {us : List Value} (h0 : 0 < us.length) (hs : ∀ u ∈ us, ∃ d, Stands X Z H (.p a b) u d) {h₁ : Heap} {l : Addr} (hk : ∀ b o, s.heap.get? b = some o → b ≠ l ∧ h₁.get? b = some o) {prog : Program} {w : World} :
    SrtO.SortableO prog w A { s with heap := h₁ } l us fun v u => ltD (keyOf X Z H (.p a b) v) (keyOf X Z H (.p a b) u) := by
  intro h' keep
  have I' : ShA X Z H { s with heap := h' } := I.keeps fun b o e => keep b o (hk b o e).1 (hk b o e).2
  refine ⟨PyProof.Rows.tuples' (kindV a != Value.type "tuple"), fun Q E hq => ?_, shp_cmp I' hu hn hs _ fun z => ?_⟩
  · obtain ⟨fs, h1, h2, h3⟩ := shp_tups I' hn (M := model prog w) hs
    exact PySem.W.kat_kind (T := kindV a) h1 (by omega) h3 (by cases a <;> rfl) hq
  · cases a with
    | s => rfl
    | i => rfl
    | p _ _ => exact absurd z (by show ¬ ((Value.type "tuple" != Value.type "tuple") = true); first | decide | decide +kernel)
theorem ShA.ofF {F : Hp} (I : Inv X pins σ H s) (sub : Same F H) : ShA X Z F s := ⟨fun {n x v u} d h r => by
    cases x with
    | non => simp only [Rp] at h; subst h; exact r
    | bl b => simp only [Rp] at h; subst h; exact r
    | int i => simp only [Rp] at h; subst h; exact r
    | str z => simp only [Rp] at h; subst h; exact r
    | tup l =>
      simp only [Rp] at h
      obtain ⟨a, vs, rfl, ha, hv⟩ := h
      obtain ⟨its, rv, p, _⟩ := I.tuple (sqT_mono sub ha)
      exact ⟨a, vs, its, r, p, rv, hv⟩
    | lst l =>
      simp only [Rp] at h
      obtain ⟨a, vs, rfl, ha, hv⟩ := h
      obtain ⟨its, rv, p, _⟩ := I.list (.of (sub _ _ ha))
      exact ⟨a, vs, its, r, p.isList, rv, hv⟩
    | ins c l => cases n <;> simp [datN] at d
    | dct c l => cases n <;> simp [datN] at d
    | scr l => cases n <;> simp [datN] at d, fun n m x y v dx dy hx hy => eqD_same I n m x y v dx dy (hx.mono sub) (hy.mono sub)⟩
/-- sorted(l), pairs of one shape -/
def rSortedT (X : Cx) (Z : Zt) : List V → Hp → VK → Prop := fun vs H Q => ∃ (F : Hp) (p : Addr) (us : List V) (ds : List D) (a b : Shp), Same F H ∧ vs = [V.ref p] ∧ SqL X.K H p us ∧ Rps (kx X Z) F ds us ∧ shpDep (.p a b) ≤ 5 ∧ (∀ d ∈ ds, hasShp (.p a b) d = true) ∧
  ∀ (us' : List V) (q : Addr), Rps (kx X Z) F (sortT ds) us' → H q = none → Q (.ref q) (upd H q (.lst us'))
theorem stands_all {a b : Shp} : ∀ {ds : List D} {us : List V} {its : List Value}, Rps (kx X Z) H ds us → Vals us its → (∀ d ∈ ds, hasShp (.p a b) d = true) → ∀ u ∈ its, ∃ d, Stands X Z H (.p a b) u d
  | [], us, its, h, rv, _, u, hu => by
    have := h.unnil
    subst this
    cases rv
    simp at hu
  | d :: ds, us, its, h, rv, hs, u, hu => by
    obtain ⟨v, r, rfl, h1, h2⟩ := h.uncons
    cases rv with
    | cons t rv =>
      rcases List.mem_cons.mp hu with rfl | hu
      · exact ⟨d, hs d (by simp), v, h1, t⟩
      · exact stands_all h2 rv (fun d hd => hs d (by simp [hd])) u hu
theorem keys_all (I : ShA X Z H s) {a b : Shp} (hn : shpDep (.p a b) ≤ 5) : ∀ {ds : List D} {us : List V} {its : List Value}, Rps (kx X Z) H ds us → Vals us its → (∀ d ∈ ds, hasShp (.p a b) d = true) → its.map (keyOf X Z H (.p a b)) = ds
  | [], us, its, h, rv, _ => by
    have := h.unnil
    subst this
    cases rv
    rfl
  | d :: ds, us, its, h, rv, hs => by
    obtain ⟨v, r, rfl, h1, h2⟩ := h.uncons
    cases rv with
    | cons t rv =>
      rw [List.map_cons, keyOf_is I hn ⟨hs d (by simp), v, h1, t⟩, keys_all I hn h2 rv fun d hd => hs d (by simp [hd])]
def toV : Value → V
  | .ref p => .ref p
  | _ => .non
theorem back_all (I : ShA X Z H s) {a b : Shp} (hn : shpDep (.p a b) ≤ 5) : ∀ {out : List Value}, (∀ u ∈ out, ∃ d, Stands X Z H (.p a b) u d) → Rps (kx X Z) H (out.map (keyOf X Z H (.p a b))) (out.map toV) ∧ Vals (out.map toV) out
  | [], _ => ⟨Rps.nil', .nil⟩
  | u :: out, h => by
    obtain ⟨h1, h2⟩ := back_all I hn (out := out) fun v hv => h v (by simp [hv])
    obtain ⟨d, hd⟩ := h u (by simp)
    have hd' := hd
    obtain ⟨q, v, r, t⟩ := hd
    have ev : v = toV u := by
      obtain ⟨x1, x2, rfl, _, _⟩ := hasShp_pair q
      simp only [Rp] at r
      obtain ⟨p, _, rfl, _⟩ := r
      have t : u = .ref p := t
      subst t
      rfl
    subst ev
    simp only [List.map_cons]
    rw [keyOf_is I hn hd']
    exact ⟨Rps.cons' r h1, .cons t h2⟩
theorem cr_sortedT (hu : X.A.units + 64 < cLine) : CallR X (.builtin "sorted") (rSortedT X Z) := by
  intro pins s σ H vs us0 Q I r h
  obtain ⟨F, p, us, ds, a, b, sub, rfl, hsq, hr, hn, hs, q⟩ := h
  obtain ⟨its, rv, hl, hlz⟩ := I.list hsq
  rw [Vals.ref1 r]
  have IS : ShA X Z F s := ShA.ofF I sub
  have hst := stands_all hr rv hs
  have hz : its.length ≤ sizeLine := by
    rw [← rv.length]
    exact hlz
  refine SrtO.sorted_ord (swo_key (X := X) (Z := Z) (H := F) (.p a b)) hl.isList hz (fun h2 h₁ l hl1 kk => ?_) fun out h1 h2 => ?_
  · exact shp_sortable IS (A := X.A.in1.in1) (by show X.A.units + 1 + 1 + 20 < cLine; omega) hn (by omega) hst kk
  · have hout : ∀ u ∈ out, ∃ d, Stands X Z F (.p a b) u d := fun u hu => hst u (h2.perm.mem_iff.mp hu)
    obtain ⟨b1, b2⟩ := back_all IS hn hout
    have hk : out.map (keyOf X Z F (.p a b)) = sortT ds := by
      refine sortT_uniq hs ?_ ?_
      · rw [← keys_all IS hn hr rv hs]
        exact h2.perm.map _
      · exact List.pairwise_map.mpr h1
    rw [hk] at b1
    obtain ⟨ep, he'⟩ := PyProof.Rows.sortedAll_at s.heap its out.toArray
    have hlen : (out.map toV).length ≤ sizeLine := by rw [List.length_map, h2.perm.length_eq]; exact hz
    exact ⟨.ref _, upd H (s.heap.objs.size + 1) (.lst (out.map toV)), I.laid (t' := s.toks) (fun _ _ => PyProof.Rows.sortedAll_old) (Nat.le_succ _) ⟨hlen, out, ep, b2, he'⟩, rfl, q _ _ b1 (I.hok.fresh (Nat.le_succ _))⟩
end
end NV

namespace NV
open PySem L2

section
variable {k : Kx} {F F' H H' F1 H1 : Hp} {μ μ' μ1 : Nat → Addr} {S S' S1 : Sto}
theorem app_get {c c' : Cell} {n : Nat} (h : (S ++ [c])[n]? = some c') : (n < S.length ∧ S[n]? = some c') ∨ (n = S.length ∧ c' = c) := by
  by_cases hn : n < S.length
  · rw [List.getElem?_append_left hn] at h; exact .inl ⟨hn, h⟩
  · have : n < (S ++ [c]).length := (List.getElem?_eq_some_iff.mp h).1
    simp at this
    have e : n = S.length := by omega
    subst e
    simp at h
    exact .inr ⟨rfl, h.symm⟩
/-- a thing that is new since then becomes a cell -/
theorem adopt (g : Gr F H μ S F' H' μ' S1) (s : StoOk k F' H' μ' S1) {p : Addr} (hp : H p = none) (np : ∀ (m : Nat) (c : Cell), S1[m]? = some c → c ≠ .dead → μ' m ≠ p) {c : Cell} (hc : CellOk k F' H' (mu1 μ' S1.length p) (S1.length + 1) p c) :
    Gr F H μ S F' H' (mu1 μ' S1.length p) (S1 ++ [c]) ∧ StoOk k F' H' (mu1 μ' S1.length p) (S1 ++ [c]) := by
  have hm : ∀ n, n < S1.length → mu1 μ' S1.length p n = μ' n := fun n h => mu1_ne (by omega)
  refine ⟨⟨g.dom, g.h, g.f, g.new, by simp; have := g.len; omega, fun n hn => ?_, fun n h => ?_, fun n c' hn h d => ?_⟩, ⟨s.sub, fun n c' h => ?_, fun n m c1 c2 h1 h2 d1 d2 e => ?_⟩⟩
  · have := g.len
    rw [hm n (by omega)]; exact g.mu n hn
  · have := g.dd n h
    rw [List.getElem?_append_left (List.getElem?_eq_some_iff.mp this).1]; exact this
  · rcases app_get h with ⟨q, h⟩ | ⟨rfl, _⟩
    · rw [hm n q]; exact g.fresh n c' hn h d
    · rw [mu1_same]; exact hp
  · rcases app_get h with ⟨q, h⟩ | ⟨rfl, rfl⟩
    · rw [hm n q]
      exact (s.cell n c' h).mono (fun _ => rfl) (Same.refl _) (fun d => (s.cell n c' h).fnone d) hm (by simp)
    · rw [mu1_same, List.length_append]; exact hc
  · rcases app_get h1 with ⟨q1, k1⟩ | ⟨e1, _⟩
    · rcases app_get h2 with ⟨q2, k2⟩ | ⟨e2, _⟩
      · rw [hm n q1, hm m q2] at e
        exact s.inj n m c1 c2 k1 k2 d1 d2 e
      · rw [hm n q1, e2, mu1_same] at e
        exact absurd e (np n c1 k1 d1)
    · rcases app_get h2 with ⟨q2, k2⟩ | ⟨e2, _⟩
      · rw [hm m q2, e1, mu1_same] at e
        exact absurd e.symm (np m c2 k2 d2)
      · rw [e1, e2]
/-- a cell without references may stand in any store -/
theorem unV_any {N N' : Nat} {l : List W} {vs : List V} (e : (unV l).isSome = true) (h : RpWs k F μ N l vs) : RpWs k F μ' N' l vs := by
  cases q : unV l with
  | none => rw [q] at e; cases e
  | some ds =>
    have := h.unV q
    rw [unV_map q]
    exact this.ws
theorem CellOk.leaf {N N' : Nat} {a : Addr} {c : Cell} (e : c.tree.isSome = true) (h : CellOk k F H μ N a c) : CellOk k F H μ' N' a c := by
  cases c with
  | dead => trivial
  | lst l =>
    obtain ⟨vs, h1, h2, h3⟩ := h
    refine ⟨vs, h1, h2, unV_any ?_ h3⟩
    simpa [Cell.tree] using e
  | tup l =>
    obtain ⟨vs, h1, h2, h3⟩ := h
    refine ⟨vs, h1, h2, unV_any ?_ h3⟩
    simpa [Cell.tree] using e
  | dct ks l =>
    obtain ⟨vs, h1, h2, h3⟩ := h
    refine ⟨vs, h1, unV_any ?_ h2, h3⟩
    simpa [Cell.tree] using e
  | ins c l =>
    obtain ⟨dx, fs, vs, h1, h2, h3, h4⟩ := h
    refine ⟨dx, fs, vs, h1, h2, h3, unV_any ?_ h4⟩
    simpa [Cell.tree] using e
theorem tree_live {c : Cell} (e : c.tree.isSome = true) : c ≠ .dead := fun z => by subst z; simp [Cell.tree] at e
/-! ### a def's outcome, in the store of its caller -/
/-- a whole store comes behind -/
def mu2 (μ μ' : Nat → Addr) (n : Nat) : Nat → Addr := fun m => if m < n then μ m else μ' (m - n)
theorem shWs {N n : Nat} : ∀ {l : List W} {vs : List V}, RpWs k F μ' N l vs → RpWs k F (mu2 μ μ' n) (n + N) (l.map (shW n)) vs
  | [], vs, h => h
  | .v d :: l, vs, h => by
    obtain ⟨v, r, rfl, h2, h3⟩ := h
    exact ⟨v, r, rfl, h2, shWs h3⟩
  | .r m :: l, vs, h => by
    obtain ⟨v, r, rfl, h2, h3⟩ := h
    refine ⟨v, r, rfl, ⟨?_, ?_⟩, shWs h3⟩
    · unfold mu2
      rw [if_neg (by omega), Nat.add_sub_cancel]
      exact h2.1
    · have := h2.2
      show m + n < n + N
      omega
theorem CellOk.sh {N n : Nat} {a : Addr} {c : Cell} (h : CellOk k F H μ' N a c) : CellOk k F H (mu2 μ μ' n) (n + N) a (shC n c) := by
  cases c with
  | dead => trivial
  | lst l => obtain ⟨vs, h1, h2, h3⟩ := h; exact ⟨vs, h1, h2, shWs h3⟩
  | tup l => obtain ⟨vs, h1, h2, h3⟩ := h; exact ⟨vs, h1, h2, shWs h3⟩
  | dct ks l => obtain ⟨vs, h1, h2, h3⟩ := h; exact ⟨vs, h1, shWs h2, h3⟩
  | ins c l => obtain ⟨dx, fs, vs, h1, h2, h3, h4⟩ := h; exact ⟨dx, fs, vs, h1, h2, h3, shWs h4⟩
theorem shC_dead {n : Nat} {c : Cell} (h : shC n c ≠ .dead) : c ≠ .dead := fun z => by subst z; exact h rfl
theorem adoptAll (g : Gr F H μ [] F' H' μ' S') (s' : StoOk k F' H' μ' S') (s : StoOk k F H μ1 S) :
    Gr F H μ1 S F' H' (mu2 μ1 μ' S.length) (S ++ S'.map (shC S.length)) ∧ StoOk k F' H' (mu2 μ1 μ' S.length) (S ++ S'.map (shC S.length)) := by
  obtain ⟨g0, s0⟩ := g.over s'.sub s
  have lo : ∀ n, n < S.length → mu2 μ1 μ' S.length n = μ1 n := fun n h => if_pos h
  have hi : ∀ n, ¬ n < S.length → mu2 μ1 μ' S.length n = μ' (n - S.length) := fun n h => if_neg h
  have get : ∀ (n : Nat) (c : Cell), (S ++ S'.map (shC S.length))[n]? = some c → (n < S.length ∧ S[n]? = some c) ∨ (¬ n < S.length ∧ ∃ c0, S'[n - S.length]? = some c0 ∧ c = shC S.length c0) := fun n c h => by
    by_cases hn : n < S.length
    · rw [List.getElem?_append_left hn] at h; exact .inl ⟨hn, h⟩
    · rw [List.getElem?_append_right (by omega), List.getElem?_map] at h
      obtain ⟨c0, h1, h2⟩ := Option.map_eq_some_iff.mp h
      exact .inr ⟨hn, c0, h1, h2.symm⟩
  have fr : ∀ (n : Nat) (c : Cell), S'[n]? = some c → c ≠ .dead → H (μ' n) = none := fun n c h d => g.fresh n c (by simp) h d
  refine ⟨⟨g0.dom, g0.h, g0.f, g0.new, by simp, lo, fun n h => ?_, fun n c hn h d => ?_⟩, ⟨s0.sub, fun n c h => ?_, fun n m c1 c2 h1 h2 d1 d2 e => ?_⟩⟩
  · rw [List.getElem?_append_left (List.getElem?_eq_some_iff.mp h).1]; exact h
  · rcases get n c h with ⟨q, _⟩ | ⟨q, c0, h0, rfl⟩
    · omega
    · rw [hi n q]; exact fr _ _ h0 (shC_dead d)
  · rcases get n c h with ⟨q, h⟩ | ⟨q, c0, h0, rfl⟩
    · rw [lo n q]
      exact (s0.cell n c h).mono (fun _ => rfl) (Same.refl _) (fun d => (s0.cell n c h).fnone d) lo (by simp)
    · rw [hi n q, List.length_append, List.length_map]
      exact (s'.cell _ _ h0).sh
  · have cross : ∀ (n m : Nat) (c1 c0 : Cell), n < S.length → S[n]? = some c1 → c1 ≠ .dead → S'[m]? = some c0 → c0 ≠ .dead → μ1 n = μ' m → False := fun n m c1 c0 _ h1 d1 h0 d0 e => by
      obtain ⟨o, ho⟩ := (s.cell n c1 h1).some d1
      rw [e, fr m c0 h0 d0] at ho; cases ho
    rcases get n c1 h1 with ⟨q1, k1⟩ | ⟨q1, x1, k1, rfl⟩
    · rcases get m c2 h2 with ⟨q2, k2⟩ | ⟨q2, x2, k2, rfl⟩
      · rw [lo n q1, lo m q2] at e
        exact s.inj n m c1 c2 k1 k2 d1 d2 e
      · rw [lo n q1, hi m q2] at e
        exact (cross n _ c1 x2 q1 k1 d1 k2 (shC_dead d2) e).elim
    · rcases get m c2 h2 with ⟨q2, k2⟩ | ⟨q2, x2, k2, rfl⟩
      · rw [hi n q1, lo m q2] at e
        exact (cross m _ c2 x1 q2 k2 d2 k1 (shC_dead d1) e.symm).elim
      · rw [hi n q1, hi m q2] at e
        have := s'.inj _ _ x1 x2 k1 k2 (shC_dead d1) (shC_dead d2) e
        omega
/-- a def without references -/
theorem emb_ok (s : StoOk k F H μ1 S) {w w' : W} {v : V} (h : PoW k F H μ [] w S' v H') (e : emb S w S' = .ok w' S1) : PoW k F H μ1 S w' S1 v H' := by
  obtain ⟨F', μ', g, s', r⟩ := h
  obtain ⟨g0, s0⟩ := g.over s'.sub s
  unfold emb at e
  split at e
  · cases e
    exact ⟨F', μ1, g0, s0, r⟩
  · split at e
    · rename_i n _ c hc
      obtain ⟨rfl, hn⟩ := r
      split at e
      · rename_i hl
        cases e
        have hd := tree_live hl
        have hp : H (μ' n) = none := g.fresh n c (by simp) hc hd
        obtain ⟨g1, s1⟩ := adopt g0 s0 hp (fun m c' hm d' e => by
          obtain ⟨o, ho⟩ := (s.cell m c' hm).some d'
          rw [e, hp] at ho; cases ho) ((s'.cell n c hc).leaf hl)
        exact ⟨F', _, g1, s1, by rw [mu1_same], by simp⟩
      · cases e
        obtain ⟨g1, s1⟩ := adoptAll g s' s
        refine ⟨F', _, g1, s1, ?_, ?_⟩
        · unfold mu2
          rw [if_neg (by omega), Nat.add_sub_cancel]
        · simp; omega
    · cases e
theorem sto_ok (s : StoOk k F H μ S) {w w' : W} {v : V} (h : PoW k F H μ S w S' v H') {S0 : Sto} (hc : cut S.length S' = some S0) (e : stoK S.length w S' S0 = .ok w' S1) : PoW k F H μ S w' S1 v H' := by
  obtain ⟨F', μ', g, s', r⟩ := h
  have g0 := g.cut rfl hc
  have s0 := s'.cut hc
  obtain ⟨h1, _, h2, h3⟩ := cut_some hc
  unfold stoK at e
  split at e
  · cases e
    exact ⟨F', μ', g0, s0, r⟩
  · obtain ⟨rfl, hn⟩ := r
    split at e
    · cases e
      exact ⟨F', μ', g0, s0, rfl, by omega⟩
    · rename_i n hnl
      split at e
      · rename_i c hcn
        split at e
        · rename_i hl
          cases e
          have hd := tree_live hl
          have hp : H (μ' n) = none := g.fresh n c (by omega) hcn hd
          obtain ⟨g1, s1⟩ := adopt g0 s0 hp (fun m c' hm d' e => by
            obtain ⟨q1, _, q3⟩ := h3 m c' hm
            have := s'.inj m n c' c q1 hcn d' hd e
            omega) ((s'.cell n c hcn).leaf hl)
          rw [h2] at g1 s1
          exact ⟨F', _, g1, s1, by rw [mu1_same], by simp [h2]⟩
        · cases e
      · cases e
end
end NV

namespace NV
open PySem L2
open PyProof.Rows hiding St

/-! ### operations at given slots -/
/-- an operator's outcome -/
def OpW (X : Cx) (f : Value → Value → Sem Value) (σ : St) (x y : V) (H : Hp) (Q : VK) : Prop := ∀ (pins : List (Addr × Obj)) (s : Shared) (v u : Value), Inv X pins σ H s → RelV x v → RelV y u → wpAny (model X.prog X.w) X.A (f v u) (EP X pins σ Q) X.xe s
def UnW (X : Cx) (f : Value → Sem Value) (σ : St) (x : V) (H : Hp) (Q : VK) : Prop := ∀ (pins : List (Addr × Obj)) (s : Shared) (v : Value), Inv X pins σ H s → RelV x v → wpAny (model X.prog X.w) X.A (f v) (EP X pins σ Q) X.xe s
def TrW (X : Cx) (σ : St) (x : V) (H : Hp) (Q : Bool → Hp → Prop) : Prop := ∀ (pins : List (Addr × Obj)) (s : Shared) (v : Value), Inv X pins σ H s → RelV x v → wpAny (model X.prog X.w) X.A (truthy v) (TP X pins σ Q) X.xe s
def CaW (X : Cx) (σ : St) (fv : Value) (vs : List V) (H : Hp) (Q : VK) : Prop := ∀ (pins : List (Addr × Obj)) (s : Shared) (us : List Value), Inv X pins σ H s → Vals vs us → wpAny (model X.prog X.w) X.A (call fv us) (EP X pins σ Q) X.xe s
section
variable {X : Cx} {σ : St} {H : Hp} {Q : VK} {a b c : Expr} {pos : Pos}
theorem OpW.of {f : Value → Value → Sem Value} {r : R2} {x y : V} (h : OpR X f r) (q : r x y H Q) : OpW X f σ x y H Q := fun pins s v u I rx ry => h pins s σ H x y v u Q I rx ry q
theorem CaW.of {f : Value} {r : List V → Hp → VK → Prop} {vs : List V} (h : CallR X f r) (q : r vs H Q) : CaW X σ f vs H Q := fun pins s us I rv => h pins s σ H vs us Q I rv q
theorem OpW.mono {f : Value → Value → Sem Value} {x y : V} {Q' : VK} (h : OpW X f σ x y H Q) (k : ∀ v H', Q v H' → Q' v H') : OpW X f σ x y H Q' := fun pins s v u I rx ry => thn (h pins s v u I rx ry) fun _ _ ⟨v, H', I', r, q⟩ => ⟨v, H', I', r, k v H' q⟩
theorem CaW.mono {f : Value} {vs : List V} {Q' : VK} (h : CaW X σ f vs H Q) (k : ∀ v H', Q v H' → Q' v H') : CaW X σ f vs H Q' := fun pins s us I rv => thn (h pins s us I rv) fun _ _ ⟨v, H', I', r, q⟩ => ⟨v, H', I', r, k v H' q⟩
theorem we_bin {op : Operator} (h : WE X a σ H fun x H1 => WE X b σ H1 fun y H2 => OpW X (binaryOp op) σ x y H2 Q) : WE X (.BinOp a op b pos) σ H Q := fun pins s I =>
  wpAny_BinOp (thn (h pins s I) fun v s1 ⟨x, H1, I1, r1, q1⟩ => thn (q1 pins s1 I1) fun u s2 ⟨y, H2, I2, r2, q2⟩ => q2 pins s2 v u I2 r1 r2)
theorem we_un {op : UnaryOp} (h : WE X a σ H fun x H1 => UnW X (unaryOp op) σ x H1 Q) : WE X (.UnaryOp op a pos) σ H Q := fun pins s I =>
  UnaryOp_ (thn (h pins s I) fun v s1 ⟨x, H1, I1, r1, q1⟩ => q1 pins s1 v I1 r1)
theorem we_cmp {op : CmpOp} (hm : behindInMarks op b = false) (h : WE X a σ H fun x H1 => WE X b σ H1 fun y H2 => OpW X (compareOp op) σ x y H2 Q) : WE X (.Compare a [op] [b] pos) σ H Q := fun pins s I =>
  wpAny_Compare1 (thn (h pins s I) fun v s1 ⟨x, H1, I1, r1, q1⟩ => thn (q1 pins s1 I1) fun u s2 ⟨y, H2, I2, r2, q2⟩ => q2 pins s2 v u I2 r1 r2) hm
theorem wt_cmp {op : CmpOp} {Q : Bool → Hp → Prop} (hm : behindInMarks op b = false) (h : WE X a σ H fun x H1 => WE X b σ H1 fun y H2 => OpW X (compareOp op) σ x y H2 fun z H3 => ∃ k, z = .bl k ∧ Q k H3) : WT X (.Compare a [op] [b] pos) σ H Q := fun pins s I =>
  wpAny_isTrue_Compare1 (thn (h pins s I) fun v s1 ⟨x, H1, I1, r1, q1⟩ => thn (q1 pins s1 I1) fun u s2 ⟨y, H2, I2, r2, q2⟩ => thn (q2 pins s2 v u I2 r1 r2) fun c s3 ⟨z, H3, I3, r3, k, e, q3⟩ => by
    subst e
    cases r3
    exact wpAny_truthy_bool ⟨H3, I3, q3⟩) hm
theorem we_chain {op op' : CmpOp} (hm : lastMarks [op, op'] [b, c] = false) (h : WE X a σ H fun x H1 => WE X b σ H1 fun y H2 => OpW X (compareOp op) σ x y H2 fun z H3 => ∃ k, z = .bl k ∧
      (if k = true then WE X c σ H3 fun w H4 => OpW X (compareOp op') σ y w H4 Q else Q (.bl false) H3)) : WE X (.Compare a [op, op'] [b, c] pos) σ H Q := by
  intro pins s I
  refine Compare_chain (thn (h pins s I) fun v s1 ⟨x, H1, I1, r1, q1⟩ => chain_link (thn (q1 pins s1 I1) fun u s2 ⟨y, H2, I2, r2, q2⟩ =>
    thn (q2 pins s2 v u I2 r1 r2) fun d s3 ⟨z, H3, I3, r3, k, e, q3⟩ => ?_)) hm
  subst e
  cases r3
  refine wpAny_truthy_bool ?_
  cases k with
  | false => exact ite_ff ⟨.bl false, H3, I3, rfl, q3⟩
  | true => exact ite_tt (chain_last (thn (q3 pins s3 I3) fun w' s4 ⟨z', H4, I4, r4, q4⟩ => q4 pins s4 u w' I4 r2 r4))
theorem wt_chain {op op' : CmpOp} {Q : Bool → Hp → Prop} (hm : lastMarks [op, op'] [b, c] = false) (h : WE X a σ H fun x H1 => WE X b σ H1 fun y H2 => OpW X (compareOp op) σ x y H2 fun z H3 => ∃ k, z = .bl k ∧
      (if k = true then WE X c σ H3 fun w H4 => OpW X (compareOp op') σ y w H4 fun z H5 => ∃ k, z = .bl k ∧ Q k H5 else Q false H3)) : WT X (.Compare a [op, op'] [b, c] pos) σ H Q := by
  intro pins s I
  refine isTrue_chain (thn (h pins s I) fun v s1 ⟨x, H1, I1, r1, q1⟩ => test_link (thn (q1 pins s1 I1) fun u s2 ⟨y, H2, I2, r2, q2⟩ =>
    thn (q2 pins s2 v u I2 r1 r2) fun d s3 ⟨z, H3, I3, r3, k, e, q3⟩ => ?_)) hm
  subst e
  cases r3
  refine wpAny_truthy_bool ?_
  cases k with
  | false => exact ite_ff ⟨H3, I3, q3⟩
  | true =>
    refine ite_tt (test_last (thn (q3 pins s3 I3) fun w' s4 ⟨z', H4, I4, r4, q4⟩ => thn (q4 pins s4 u w' I4 r2 r4) fun d' s5 ⟨z2, H5, I5, r5, k2, e2, q5⟩ => ?_))
    subst e2
    cases r5
    exact wpAny_truthy_bool ⟨H5, I5, q5⟩
theorem wt_tru {Q : Bool → Hp → Prop} (he : ∀ whole, isTrue a X.env whole = (do let v ← whole; standAt a.pos; holding [v] (truthy v))) (h : WE X a σ H fun x H1 => TrW X σ x H1 Q) : WT X a σ H Q := fun pins s I =>
  isTrue_plain (thn (h pins s I) fun v s1 ⟨x, H1, I1, r1, q1⟩ => q1 pins s1 v I1 r1) (he _)
theorem TrW.of {Q : Bool → Hp → Prop} {x : V} {k : Bool} (t : TruV X.K x H k) (q : Q k H) : TrW X σ x H Q := fun pins s v I r => tru_ok pins s σ H x v Q I r ⟨k, t, q⟩
/-- arguments -/
def AgW (X : Cx) (es : List Expr) (σ : St) (H : Hp) (R : List V → Hp → Prop) : Prop := match es with
  | [] => R [] H
  | e :: r => WA X (e :: r) σ H R
/-! ### calls -/
variable {x m : Str} {p apos : Pos} {e o : Expr} {es : List Expr} {f : Addr}
theorem we_call (hg : Gl X x) (hm : X.mg x = some (.ref f)) (hk : PySem.W.keepIn X.K (.ref f) = true) (hdb : (x == ("__debug__" : Str)) = false) (he : starEach (e :: es) X.env = (false, eval e X.env) :: starEach es X.env) (hpl : (backTo pos (starEach es X.env)).any (·.1) = false)
    (h : WA X (e :: es) σ H fun vs H1 => CaW X σ (.ref f) vs H1 Q) : WE X (.Call (.Name x p) (e :: es) [] pos) σ H Q := by
  intro pins s I
  refine wpAny_Call_Name_kw (ld_glob I hg hm ?_ hdb)
  exact PySem.W.callWith_K (h₀ := X.base) I.ok.mod.kin hk (thn (h pos pins s I) fun us s1 ⟨vs, H1, I1, r, q⟩ => ⟨I1.kIn, q pins s1 us I1 r⟩) he hpl
theorem we_callA (hg : Gl X x) (hm : X.mg x = some (.ref f)) (hk : PySem.W.keepIn X.K (.ref f) = true) (hdb : (x == ("__debug__" : Str)) = false) (he : ∀ e r, es = e :: r → starEach (e :: r) X.env = (false, eval e X.env) :: starEach r X.env ∧ (backTo pos (starEach r X.env)).any (·.1) = false)
    (h : AgW X es σ H fun vs H1 => CaW X σ (.ref f) vs H1 Q) : WE X (.Call (.Name x p) es [] pos) σ H Q := by
  cases es with
  | nil =>
    intro pins s I
    refine wpAny_Call_Name_kw (ld_glob I hg hm ?_ hdb)
    exact PySem.W.callWith_K0 I.kIn hk (h pins s [] I .nil)
  | cons e r => exact we_call hg hm hk hdb (he e r rfl).1 (he e r rfl).2 h
theorem we_call0 (hg : Gl X x) (hm : X.mg x = some (.ref f)) (hk : PySem.W.keepIn X.K (.ref f) = true) (hdb : (x == ("__debug__" : Str)) = false) (h : CaW X σ (.ref f) [] H Q) : WE X (.Call (.Name x p) [] [] pos) σ H Q := by
  intro pins s I
  refine wpAny_Call_Name_kw (ld_glob I hg hm ?_ hdb)
  exact PySem.W.callWith_K0 I.kIn hk (h pins s [] I .nil)
theorem we_callB {id : String} (hg : Gl X x) (hm : X.mg x = none) (hv : bootBuiltins x = some (.builtin id)) (hn : x ≠ "__name__") (hdb : (x == ("__debug__" : Str)) = false) (he : starEach (e :: es) X.env = (false, eval e X.env) :: starEach es X.env) (hpl : (backTo pos (starEach es X.env)).any (·.1) = false)
    (h : WA X (e :: es) σ H fun vs H1 => CaW X σ (.builtin id) vs H1 Q) : WE X (.Call (.Name x p) (e :: es) [] pos) σ H Q := by
  intro pins s I
  refine wpAny_Call_Name_kw (ld_blt I hg hm hv ?_ hn hdb)
  exact PyProof.Rows.callWith_builtin1 (thn (h pos pins s I) fun us s1 ⟨vs, H1, I1, r1, q1⟩ => q1 pins s1 us I1 r1) he hpl
theorem we_callTy {T : String} (hg : Gl X x) (hm : X.mg x = none) (hv : bootBuiltins x = some (.type T)) (hn : x ≠ "__name__") (hdb : (x == ("__debug__" : Str)) = false) (he : starEach (e :: es) X.env = (false, eval e X.env) :: starEach es X.env) (hpl : (backTo pos (starEach es X.env)).any (·.1) = false)
    (h : WA X (e :: es) σ H fun vs H1 => CaW X σ (.type T) vs H1 Q) : WE X (.Call (.Name x p) (e :: es) [] pos) σ H Q := by
  intro pins s I
  refine wpAny_Call_Name_kw (ld_blt I hg hm hv ?_ hn hdb)
  exact PyProof.Rows.callWith_type1 (thn (h pos pins s I) fun us s1 ⟨vs, H1, I1, r1, q1⟩ => q1 pins s1 us I1 r1) he hpl
theorem any_noStar {l : List (Bool × Sem Value)} (h : l.any (·.1) = false) : l.all (fun x => !x.1) = true := by
  rw [List.all_eq_true]
  intro x hx
  rw [List.any_eq_false] at h
  simpa using h x hx
/-- o.m(..) of an instance -/
theorem we_meth (hb : attributeBase o m X.env (eval o X.env) = eval o X.env) (hl : (apos.endLine == pos.line) = true) (hpl : (backTo pos (starEach es X.env)).any (·.1) = false) (hn : es.length < 30) (he : ∀ e r, es = e :: r → starEach (e :: r) X.env = (false, eval e X.env) :: starEach r X.env ∧ (backTo pos (starEach r X.env)).any (·.1) = false)
    (h : WE X o σ H fun x H1 => ∃ a dx fs C g, x = .ref a ∧ H1 a = some (.ins C dx fs) ∧ Cls X.K C ∧ Meth X.K C m g ∧ fs.lookup m = none ∧ (AgW X es σ H1 fun vs H2 => CaW X σ (.ref g) (x :: vs) H2 Q)) : WE X (.Call (.Attribute o m apos) es [] pos) σ H Q := by
  intro pins s I
  rw [arm_eval_Call, hb]
  refine wpAny_bind (wpAny_mono (h pins s I) (fun u s1 ⟨x, H1, I1, rx, a, dx, fs, C, g, ex, ea, c, hm, l, q⟩ => ?_) fun _ _ e => e)
  subst ex
  obtain rfl : u = Value.ref a := rx
  refine wpAny_bind (wpAny_standAt ?_)
  have hform : methodCallForm (es.length + ([] : List Keyword).length) (backTo pos (starEach es X.env)) (backToKw pos (keywordEach [] X.env)) = true := by
    unfold methodCallForm
    rw [any_noStar hpl]
    show (true && true && decide (es.length + 0 + 0 < 30)) = true
    simp [hn]
  have hpos : methodCallPos true o X.env apos pos = pure pos := by unfold methodCallPos; simp [hl]
  unfold methodCall
  rw [hform]
  refine wpAny_bind (wpAny_holding (getmeth_ok I1 ea c hm l ?_))
  refine wpAny_bind (wpAny_of_eq hpos ?_)
  cases es with
  | nil =>
    refine PySem.W.callWith_K0 (first := [.ref a]) I1.kIn hm.kp ?_
    exact q pins s1 [.ref a] I1 (.cons rfl .nil)
  | cons e r =>
    obtain ⟨h1, h2⟩ := he e r rfl
    refine PySem.W.callWith_K (first := [.ref a]) (h₀ := X.base) I.ok.mod.kin hm.kp (thn (q pos pins s1 I1) fun us s2 ⟨vs, H2, I2, r, q2⟩ => ⟨I2.kIn, ?_⟩) h1 h2
    exact q2 pins s2 (.ref a :: us) I2 (.cons rfl r)
end
end NV

namespace NV
open PySem L2

/-! ### the checker -/
structure Nm where
  N : List Str
  cs : Nat → Option Str
  fs : Nat → Option Str
  cl : Nat → Option Str
  ini : Nat → Option Nat
  df : Nat → Nat → List Df
  sm : Nat → Option (Str × Str)
  su : Option (Nat × List (Str × Nat))
def bOp : BO → Operator
  | .add => .Add | .sub => .Sub | .mul => .Mult | .fdiv => .FloorDiv | .mod => .Mod | .pow => .Pow | .and => .BitAnd | .or => .BitOr | .xor => .BitXor
def cOp : CO → CmpOp
  | .eq => .Eq | .ne => .NotEq | .lt => .Lt | .le => .LtE | .gt => .Gt | .ge => .GtE | .isin => .In | .notin => .NotIn | .is => .Is | .isnot => .IsNot
def visB (sc : Scope) (x : Str) : Bool := match sc.names.lookup x with
  | some .local => true
  | some .cell => true
  | some .free => true
  | _ => false
def locB (sc : Scope) (x : Str) : Bool := match sc.names.lookup x with
  | some .local => true
  | some .cell => true
  | _ => false
def glB (sc : Scope) (x : Str) : Bool := match sc.names.lookup x with
  | some .globalImplicit => true
  | _ => false
def nmB (x : Str) : Bool := !(x == ("__debug__" : Str)) && !(x == ("__classdict__" : Str))
def biN : Bi → Str
  | .len => "len" | .int => "int" | .all => "all" | .any => "any" | .list => "list" | .tuple => "tuple" | .str => "str" | .bool => "bool" | .sorted => "sorted" | .sum => "sum" | .min => "min" | .max => "max" | .iter => "iter"
def bjN : Bj → Str
  | .min => "min" | .max => "max"
def tyN : Ty → Str
  | .int => "int" | .str => "str" | .bool => "bool" | .list => "list" | .tuple => "tuple"
def tyS : Ty → String
  | .int => "int" | .str => "str" | .bool => "bool" | .list => "list" | .tuple => "tuple"
def mtN : Mt → Str
  | .join => "join" | .split => "split" | .starts => "startswith"
def noStar : Expr → Bool
  | .Starred _ _ => false
  | _ => true
def noSlice : Expr → Bool
  | .Slice _ _ _ _ => false
  | _ => true
def noSet0 : Expr → Bool
  | .Set _ _ _ => false
  | _ => true
/-- an iterator that makes tuples -/
def enI : Expr → Bool
  | .Call (.Name f _) _ _ _ => decide (f = ("enumerate" : Str))
  | _ => false
def isTup : Expr → Bool
  | .Tuple _ _ _ => true
  | _ => false
def noSet (e : Expr) : Bool := noSet0 e && !enI e
def noSuper : Expr → Bool
  | .Call (.Name _ _) [] [] _ => false
  | _ => true
/-- neither a comprehension nor anything that is tested otherwise -/
def plainT : Expr → Bool
  | .UnaryOp .Not _ _ => false
  | .BoolOp _ _ _ => false
  | .IfExp _ _ _ _ => false
  | .Compare _ _ _ _ => false
  | _ => true
/-- range(a, b) -/
def rg2 (sc : Scope) : Expr → Option (Expr × Expr)
  | .Call (.Name z _) [y, u] [] _ => if (glB sc z && decide (("range" : Str) = z) && noStar y && noStar u) = true then some (y, u) else none
  | _ => none
/-- names that are stored one by one -/
def okU (M : Nm) (sc : Scope) : List Nat → List Expr → Bool
  | [], [] => true
  | i :: is, .Name x _ :: es => decide (M.N[i]? = some x) && locB sc x && okU M sc is es
  | _, _ => false
def ownU : List Nat → List Expr → List (Str × Nat)
  | i :: is, .Name x _ :: es => (x, i) :: ownU is es
  | _, _ => []
def okG (M : Nm) (sc : Scope) : Tg → Expr → Bool
  | .one i, .Name x _ => decide (M.N[i]? = some x) && locB sc x
  | .tup is, .Tuple ts _ _ => okU M sc is ts
  | _, _ => false
def ownG : Tg → Expr → List (Str × Nat)
  | .one i, .Name x _ => [(x, i)]
  | .tup is, .Tuple ts _ _ => ownU is ts
  | _, _ => []
/-- an iterator that makes tuples has a tuple for target -/
def enT (t e : Expr) : Bool := !enI e || isTup t
mutual
def okE (M : Nm) (sc : Scope) : CE → Expr → Bool
  | .frz a, e => okE M sc a e
  | .var i, .Name x _ => visB sc x && decide (M.N[i]? = some x) && nmB x
  | .int i, .Constant (.int j) _ _ => decide (i = j)
  | .str s, .Constant (.str t) _ _ => decide (s = t)
  | .bl b, .Constant (.bool c) _ _ => decide (b = c)
  | .non, .Constant .none _ _ => true
  | .glo j, .Name x _ => glB sc x && decide (M.cs j = some x) && nmB x
  | .bin op a b, .BinOp x o y _ => decide (bOp op = o) && okE M sc a x && okE M sc b y
  | .neg a, .UnaryOp .USub x _ => okE M sc a x
  | .notv a, .UnaryOp .Not x _ => okE M sc a x
  | .andv a b, .BoolOp .And [x, y] _ => okE M sc a x && okE M sc b y
  | .andv a b, .BoolOp .And (x :: y :: z :: r) p => okE M sc a x && okE M sc b (.BoolOp .And (y :: z :: r) p)
  | .orv a b, .BoolOp .Or [x, y] _ => okE M sc a x && okE M sc b y
  | .orv a b, .BoolOp .Or (x :: y :: z :: r) p => okE M sc a x && okE M sc b (.BoolOp .Or (y :: z :: r) p)
  | .cmp op a b, .Compare x [o] [y] _ => decide (cOp op = o) && okE M sc a x && okE M sc b y && noSet y
  | .chain o1 o2 a b c, .Compare x [p1, p2] [y, z] _ => decide (cOp o1 = p1) && decide (cOp o2 = p2) && okE M sc a x && okE M sc b y && okE M sc c z && noSet y && noSet z
  | .ifx t a b, .IfExp c x y _ => okT' M sc t c && okE M sc a x && okE M sc b y
  | .tup l, .Tuple es _ _ => okL M sc l es
  | .lst l, .List es _ => okL M sc l es
  | .idx a b, .Subscript x y _ => okE M sc a x && okE M sc b y && noSlice y
  | .sli a lo hi, .Subscript x (.Slice l h none _) _ => okE M sc a x && okP M sc lo l && okP M sc hi h
  | .call f l ds, .Call (.Name x _) es [] _ => glB sc x && decide (M.fs f = some x) && nmB x && okL M sc l es && es.all noStar && decide (M.df f es.length = ds)
  | .calL f l ds, .Call (.Name x _) es [] _ => glB sc x && decide (M.fs f = some x) && nmB x && okL M sc l es && es.all noStar && decide (M.df f es.length = ds)
  | .mk c f l ds, .Call (.Name x _) es [] _ => glB sc x && decide (M.cl c = some x) && decide (M.ini c = some f) && nmB x && okL M sc l es && es.all noStar && decide (M.df f (es.length + 1) = ds)
  | .fld o a, .Attribute x nm _ => decide (a = nm) && okE M sc o x && noSuper x
  | .prp o a, .Attribute x nm _ => decide (a = nm) && okE M sc o x && noSuper x
  | .con o a, .Attribute x nm _ => decide (a = nm) && okE M sc o x && noSuper x
  | .mth o m l ds, .Call (.Attribute x nm apos) es [] pos => decide (m = nm) && okE M sc o x && noSuper x && okL M sc l es && es.all noStar && decide (es.length < 30) && (apos.endLine == pos.line) && decide (ds = [])
  | .mtL o m l ds, .Call (.Attribute x nm apos) es [] pos => decide (m = nm) && okE M sc o x && noSuper x && okL M sc l es && es.all noStar && decide (es.length < 30) && (apos.endLine == pos.line) && decide (ds = [])
  | .isc a c, .Call (.Name x _) [y, .Name z _] [] _ => glB sc x && decide (("isinstance" : Str) = x) && okE M sc a y && noStar y && glB sc z && decide (M.cl c = some z) && nmB z
  | .isi a t, .Call (.Name x _) [y, .Name z _] [] _ => glB sc x && decide (("isinstance" : Str) = x) && okE M sc a y && noStar y && glB sc z && decide (tyN t = z)
  | .bi b a, .Call (.Name x _) [y] [] _ => glB sc x && decide (biN b = x) && okE M sc a y && noStar y
  | .bj b a c, .Call (.Name x _) [y, z] [] _ => glB sc x && decide (bjN b = x) && okE M sc a y && okE M sc c z && noStar y && noStar z
  | .lrg a b, .Call (.Name x _) [z] [] _ => match rg2 sc z with
    | some p => glB sc x && decide (("list" : Str) = x) && okE M sc a p.1 && okE M sc b p.2
    | none => false
  | .mt1 m o a, .Call (.Attribute x nm apos) [y] [] pos => decide (m ≠ .starts) && decide (mtN m = nm) && okE M sc o x && okE M sc a y && noStar y && noSuper x && (apos.endLine == pos.line)
  | .lc e i s, .ListComp elt [⟨.Name x _, iter, [], as⟩] scope _ => decide (as = 0) && decide (M.N[i]? = some x) && locB scope x && blkC M.N sc scope [(x, i)] && okI M sc s iter && noSet iter && okE M (relS scope sc) e elt
  | .lcc e i s t, .ListComp elt [⟨.Name x _, iter, [c], as⟩] scope _ => decide (as = 0) && decide (M.N[i]? = some x) && locB scope x && blkC M.N sc scope [(x, i)] && okI M sc s iter && noSet iter && okE M (relS scope sc) e elt && okT' M (relS scope sc) t c
  | .lcu e is s, .ListComp elt [⟨.Tuple ts _ _, iter, [], as⟩] scope _ => decide (as = 0) && okU M scope is ts && blkC M.N sc scope (ownU is ts) && okI M sc s iter && noSet0 iter && okE M (relS scope sc) e elt
  | .lccu e is s t, .ListComp elt [⟨.Tuple ts _ _, iter, [c], as⟩] scope _ => decide (as = 0) && okU M scope is ts && blkC M.N sc scope (ownU is ts) && okI M sc s iter && noSet0 iter && okE M (relS scope sc) e elt && okT' M (relS scope sc) t c
  | .lc2 e g1 s1 g2 s2, .ListComp elt [⟨t1, iter, [], a1⟩, ⟨t2, iter1, [], a2⟩] scope _ => decide (a1 = 0) && decide (a2 = 0) && okG M scope g1 t1 && okG M scope g2 t2 && blkC M.N sc scope (ownG g1 t1 ++ ownG g2 t2) && okI M sc s1 iter && enT t1 iter && noSet0 iter && okI M (relS scope sc) s2 iter1 && enT t2 iter1 && noSet0 iter1 && okE M (relS scope sc) e elt
  | .lc2c e g1 s1 g2 s2 t, .ListComp elt [⟨t1, iter, [], a1⟩, ⟨t2, iter1, [c], a2⟩] scope _ => decide (a1 = 0) && decide (a2 = 0) && okG M scope g1 t1 && okG M scope g2 t2 && blkC M.N sc scope (ownG g1 t1 ++ ownG g2 t2) && okI M sc s1 iter && enT t1 iter && noSet0 iter && okI M (relS scope sc) s2 iter1 && enT t2 iter1 && noSet0 iter1 && okE M (relS scope sc) e elt && okT' M (relS scope sc) t c
  | _, _ => false
def okL (M : Nm) (sc : Scope) : CL → List Expr → Bool
  | .nil, [] => true
  | .cons e l, x :: r => okE M sc e x && noStar x && okL M sc l r
  | .star e l, .Starred x _ :: r => okE M sc e x && okL M sc l r
  | _, _ => false
def okT' (M : Nm) (sc : Scope) : CT → Expr → Bool
  | .cmp op a b, .Compare x [o] [y] _ => decide (cOp op = o) && okE M sc a x && okE M sc b y && noSet y
  | .chain o1 o2 a b c, .Compare x [p1, p2] [y, z] _ => decide (cOp o1 = p1) && decide (cOp o2 = p2) && okE M sc a x && okE M sc b y && okE M sc c z && noSet y && noSet z
  | .e c, x => plainT x && okE M sc c x
  | .and a b, .BoolOp .And [x, y] _ => okT' M sc a x && okT' M sc b y
  | .and a b, .BoolOp .And (x :: y :: z :: r) p => okT' M sc a x && okT' M sc b (.BoolOp .And (y :: z :: r) p)
  | .or a b, .BoolOp .Or [x, y] _ => okT' M sc a x && okT' M sc b y
  | .or a b, .BoolOp .Or (x :: y :: z :: r) p => okT' M sc a x && okT' M sc b (.BoolOp .Or (y :: z :: r) p)
  | .not a, .UnaryOp .Not x _ => okT' M sc a x
  | _, _ => false
def okP (M : Nm) (sc : Scope) : CP → Option Expr → Bool
  | .no, none => true
  | .so e, some x => okE M sc e x
  | _, _ => false
def okI (M : Nm) (sc : Scope) : CI → Expr → Bool
  | .e c, x => okE M sc c x
  | .s c, x => okE M sc c x
  | .r1 a, .Call (.Name f _) [x] [] _ => glB sc f && decide (("range" : Str) = f) && okE M sc a x && noStar x
  | .r2 a b, .Call (.Name f _) [x, y] [] _ => glB sc f && decide (("range" : Str) = f) && okE M sc a x && okE M sc b y && noStar x && noStar y
  | .en c, .Call (.Name f _) [x] [] _ => glB sc f && decide (("enumerate" : Str) = f) && okE M sc c x && noStar x
  | _, _ => false
end

/-! ### syntactic facts -/
theorem glB_gl {X : Cx} {x : Str} (h : glB X.env.scope x = true) : Gl X x := by
  unfold glB at h
  split at h
  · assumption
  · cases h
theorem visB_vis {sc : Scope} {x : Str} (h : visB sc x = true) : Vis sc x := by
  unfold visB at h
  split at h
  · exact .inl (by assumption)
  · exact .inr (.inl (by assumption))
  · exact .inr (.inr (by assumption))
  · cases h
theorem locB_loc {sc : Scope} {x : Str} (h : locB sc x = true) : Loc sc x := by
  unfold locB at h
  split at h
  · exact .inl (by assumption)
  · exact .inr (by assumption)
  · cases h
theorem nmB_d {x : Str} (h : nmB x = true) : (x == ("__debug__" : Str)) = false ∧ (x == ("__classdict__" : Str)) = false := by
  unfold nmB at h
  simpa using h
theorem starEach_cons {e : Expr} {es : List Expr} {env : Env} (h : noStar e = true) : starEach (e :: es) env = (false, eval e env) :: starEach es env := by
  cases e <;> first | rfl | (simp [noStar] at h)
theorem any_star {pos : Pos} {env : Env} : ∀ {es : List Expr}, es.all noStar = true → (backTo pos (starEach es env)).any (·.1) = false
  | [], _ => rfl
  | e :: es, h => by
    simp only [List.all_cons, Bool.and_eq_true] at h
    rw [starEach_cons h.1]
    have ih := any_star (pos := pos) (env := env) h.2
    unfold backTo at ih ⊢
    simp only [List.map_cons, List.any_cons, Bool.false_or]
    exact ih
theorem star_he {pos : Pos} {env : Env} {es : List Expr} (h : es.all noStar = true) : ∀ e r, es = e :: r → starEach (e :: r) env = (false, eval e env) :: starEach r env ∧ (backTo pos (starEach r env)).any (·.1) = false := by
  rintro e r rfl
  simp only [List.all_cons, Bool.and_eq_true] at h
  exact ⟨starEach_cons h.1, any_star h.2⟩
theorem plainIx_of {b : Expr} (h : noSlice b = true) : PlainIx b := by
  intro o i
  cases b <;> first | rfl | (simp [noSlice] at h)
theorem foldedSet_of0 {e : Expr} {env : Env} (h : noSet0 e = true) : ∀ x, foldedSetIterable e env x = pure x := by
  intro x
  cases e <;> first | rfl | (simp [noSet0] at h)
theorem noSet_0 {e : Expr} (h : noSet e = true) : noSet0 e = true := by
  unfold noSet at h
  simp only [Bool.and_eq_true] at h
  exact h.1
theorem noSet_en {e : Expr} (h : noSet e = true) : enI e = false := by
  unfold noSet at h
  simp only [Bool.and_eq_true, Bool.not_eq_true'] at h
  exact h.2
theorem foldedSet_of {e : Expr} {env : Env} (h : noSet e = true) : ∀ x, foldedSetIterable e env x = pure x := foldedSet_of0 (noSet_0 h)
theorem behind_of {op : CmpOp} {e : Expr} (h : noSet e = true) : behindInMarks op e = false := by
  cases e <;> first | rfl | (simp [noSet, noSet0] at h)
theorem plainT_of {e : Expr} {env : Env} (h : plainT e = true) : ∀ whole, isTrue e env whole = (do let v ← whole; standAt e.pos; holding [v] (truthy v)) := by
  intro whole
  cases e <;> first | rfl | (simp [plainT] at h) | skip
  rename_i op x pos
  cases op <;> first | rfl | (simp [plainT] at h)
theorem attr_base {o : Expr} {nm : Str} {env : Env} (h : noSuper o = true) : attributeBase o nm env (eval o env) = eval o env := by
  cases o <;> first | rfl | skip
  rename_i f as ks p
  cases f <;> first | rfl | skip
  cases as <;> first | rfl | skip
  cases ks <;> first | rfl | (simp [noSuper] at h)

/-! ### outcomes -/
/-- an error: its class, its dict -/
def ErOk (k : Kx) (F H : Hp) (e : Er) (cls : Value) (d : Option Addr) : Prop := cls = .ref (k.ca e.c) ∧ ∃ dd fs vs, d = some dd ∧ H dd = some (.xd fs) ∧ FldOk (k.ci e.c).flds vs fs ∧ Rps k F e.fs vs
def PoX (k : Kx) (F H : Hp) (μ : Nat → Addr) (S : Sto) (e : Er) (S' : Sto) : XK := fun cls d H' => ∃ F' μ', Gr F H μ S F' H' μ' S' ∧ StoOk k F' H' μ' S' ∧ ErOk k F' H' e cls d
/-- a def's promise: over any store -/
def spF (k : Kx) (n : Nat) (φ : Sto → List W → Out W) : Sp := fun vs H Q E => vs.length = n ∧ ∃ F μ S ws, StoOk k F H μ S ∧ RpWs k F μ S.length ws vs ∧
  ((∃ w S', φ S ws = .ok w S' ∧ ∀ v H', PoW k F H μ S w S' v H' → Q v H') ∨ ∃ e S', φ S ws = .err e S' ∧ ∀ cls d H', PoX k F H μ S e S' cls d H' → E cls d H')
def PoO (k : Kx) (F H : Hp) (μ : Nat → Addr) (S : Sto) : Out W → VK
  | .ok w S' => PoW k F H μ S w S'
  | _ => fun _ _ => False
def PoT (k : Kx) (F H : Hp) (μ : Nat → Addr) (S : Sto) : Out Bool → Bool → Hp → Prop
  | .ok b S' => PoB k F H μ S b S'
  | _ => fun _ _ => False
def PoL (k : Kx) (F H : Hp) (μ : Nat → Addr) (S : Sto) : Out (List W) → List V → Hp → Prop
  | .ok w S' => PoWs k F H μ S w S'
  | _ => fun _ _ => False
theorem CX.mono {P : Program} {w : World} {outer : List Env} {H : Hp} {s : Shared} {E E' : XK} {u : Value} {s' : Shared} (h : L2.CX P w outer H s E u s') (k : ∀ cls d H', E cls d H' → E' cls d H') : L2.CX P w outer H s E' u s' := by
  obtain ⟨a, B, H', cls, d, h1, h2, h3, h4, h5, h6, h7, h8⟩ := h
  exact ⟨a, B, H', cls, d, h1, h2, h3, h4, h5, h6, h7, k _ _ _ h8⟩
abbrev Ps (X : Cx) (σ : St) (E : XK) : Prop := PassesAt (L2.CX X.prog X.w) X σ E
theorem Ps.mono {X : Cx} {σ : St} {E E' : XK} (h : Ps X σ E) (k : ∀ cls d H', E' cls d H' → E cls d H') : Ps X σ E' := fun pins H s e s' I c => h pins H s e s' I (CX.mono c k)
theorem Ps.never {X : Cx} {σ : St} : Ps X σ (fun _ _ _ => False) := fun pins H s e s' I ⟨a, B, H', cls, d, h1, h2, h3, h4, h5, h6, h7, h8⟩ => h8.elim
theorem Ps.of {X : Cx} {σ : St} {W : WX} {E : XK} (tk : Takes X W) (h : ∀ cls d H', E cls d H' → W cls d σ H') : Ps X σ E := fun _ _ _ e s' I c => tk e s' (XE.of_call I h c)
/-- the errors of an outcome are taken -/
def ErrE {α : Type} (X : Cx) (k : Kx) (σ : St) (F H : Hp) (μ : Nat → Addr) (S : Sto) (o : Out α) : Prop := ∀ e S', o = .err e S' → Ps X σ (PoX k F H μ S e S')
section
variable {k : Kx} {F F' H H' F1 H1 : Hp} {μ μ' μ1 : Nat → Addr} {S S' S1 : Sto} {X : Cx} {σ : St}
theorem PoX.back {e : Er} {cls : Value} {d : Option Addr} (g : Gr F H μ S F1 H1 μ1 S1) (h : PoX k F1 H1 μ1 S1 e S' cls d H') : PoX k F H μ S e S' cls d H' := by
  obtain ⟨F', μ', g', s, r⟩ := h
  exact ⟨F', μ', g.trans g', s, r⟩
theorem PoO.back {o : Out W} {v : V} (g : Gr F H μ S F1 H1 μ1 S1) (h : PoO k F1 H1 μ1 S1 o v H') : PoO k F H μ S o v H' := by
  cases o with
  | ok w S' => exact PoW.back g h
  | err e S' => exact h
  | bad => exact h
theorem PoT.back {o : Out Bool} {v : Bool} (g : Gr F H μ S F1 H1 μ1 S1) (h : PoT k F1 H1 μ1 S1 o v H') : PoT k F H μ S o v H' := by
  cases o with
  | ok w S' => exact PoB.back g h
  | err e S' => exact h
  | bad => exact h
theorem PoL.back {o : Out (List W)} {v : List V} (g : Gr F H μ S F1 H1 μ1 S1) (h : PoL k F1 H1 μ1 S1 o v H') : PoL k F H μ S o v H' := by
  cases o with
  | ok w S' => exact PoWs.back g h
  | err e S' => exact h
  | bad => exact h
theorem ErrE.fwd {α : Type} {o : Out α} (h : ErrE X k σ F H μ S o) (g : Gr F H μ S F1 H1 μ1 S1) : ErrE X k σ F1 H1 μ1 S1 o := fun e S' q => (h e S' q).mono fun _ _ _ z => z.back g
theorem ErrE.ok {α : Type} {a : α} : ErrE X k σ F H μ S (.ok a S') := fun _ _ q => nomatch q
end

/-! ### soundness -/
def SndE (X : Cx) (k : Kx) (Γ : Env') (S : Sto) (e : Expr) (o : Out W) : Prop := o ≠ .bad → ∀ σ F H μ, RelG k F μ S.length Γ σ → StoOk k F H μ S → ErrE X k σ F H μ S o → WE X e σ H (PoO k F H μ S o)
def SndT (X : Cx) (k : Kx) (Γ : Env') (S : Sto) (e : Expr) (o : Out Bool) : Prop := o ≠ .bad → ∀ σ F H μ, RelG k F μ S.length Γ σ → StoOk k F H μ S → ErrE X k σ F H μ S o → WT X e σ H (PoT k F H μ S o)
def SndL (X : Cx) (k : Kx) (Γ : Env') (S : Sto) (es : List Expr) (o : Out (List W)) : Prop := o ≠ .bad → ∀ σ F H μ, RelG k F μ S.length Γ σ → StoOk k F H μ S → ErrE X k σ F H μ S o → WA X es σ H (PoL k F H μ S o)
section
variable {X : Cx} {k : Kx} {Γ : Env'} {S : Sto} {a b : Expr} {σ : St} {F H : Hp} {μ : Nat → Addr} {α : Type}
/-- an expression, then what its outcome is handed to -/
theorem SndE.th {oa : Out W} {f : W → Sto → Out α} (sa : SndE X k Γ S a oa) (hb : oa.bind f ≠ .bad) (rel : RelG k F μ S.length Γ σ) (st : StoOk k F H μ S) (er : ErrE X k σ F H μ S (oa.bind f)) {R : VK}
    (cont : ∀ x S1, oa = .ok x S1 → ∀ F1 H1 μ1 v, Gr F H μ S F1 H1 μ1 S1 → StoOk k F1 H1 μ1 S1 → RpW k F1 μ1 S1.length x v → f x S1 ≠ .bad → ErrE X k σ F1 H1 μ1 S1 (f x S1) → R v H1) : WE X a σ H R := by
  cases oa with
  | ok x S1 =>
    refine (sa (by simp) σ F H μ rel st .ok).mono fun v H1 ⟨F1, μ1, g, s1, r⟩ => ?_
    exact cont x S1 rfl F1 H1 μ1 v g s1 r hb (er.fwd g)
  | err e S1 =>
    exact (sa (by simp) σ F H μ rel st (fun e' S' q => by cases q; exact er e S1 rfl)).mono fun v H1 h => h.elim
  | bad => exact absurd rfl hb
theorem SndT.th {oa : Out Bool} {f : Bool → Sto → Out α} (sa : SndT X k Γ S a oa) (hb : oa.bind f ≠ .bad) (rel : RelG k F μ S.length Γ σ) (st : StoOk k F H μ S) (er : ErrE X k σ F H μ S (oa.bind f)) {R : Bool → Hp → Prop}
    (cont : ∀ x S1, oa = .ok x S1 → ∀ F1 H1 μ1, Gr F H μ S F1 H1 μ1 S1 → StoOk k F1 H1 μ1 S1 → f x S1 ≠ .bad → ErrE X k σ F1 H1 μ1 S1 (f x S1) → R x H1) : WT X a σ H R := by
  cases oa with
  | ok x S1 =>
    refine (sa (by simp) σ F H μ rel st .ok).mono fun v H1 ⟨e, F1, μ1, g, s1⟩ => ?_
    subst e
    exact cont v S1 rfl F1 H1 μ1 g s1 hb (er.fwd g)
  | err e S1 =>
    exact (sa (by simp) σ F H μ rel st (fun e' S' q => by cases q; exact er e S1 rfl)).mono fun v H1 h => h.elim
  | bad => exact absurd rfl hb
theorem SndL.th {es : List Expr} {oa : Out (List W)} {f : List W → Sto → Out α} (sa : SndL X k Γ S es oa) (hb : oa.bind f ≠ .bad) (rel : RelG k F μ S.length Γ σ) (st : StoOk k F H μ S) (er : ErrE X k σ F H μ S (oa.bind f)) {R : List V → Hp → Prop}
    (cont : ∀ x S1, oa = .ok x S1 → ∀ F1 H1 μ1 v, Gr F H μ S F1 H1 μ1 S1 → StoOk k F1 H1 μ1 S1 → RpWs k F1 μ1 S1.length x v → f x S1 ≠ .bad → ErrE X k σ F1 H1 μ1 S1 (f x S1) → R v H1) : WA X es σ H R := by
  cases oa with
  | ok x S1 =>
    refine (sa (by simp) σ F H μ rel st .ok).mono fun v H1 ⟨F1, μ1, g, s1, r⟩ => ?_
    exact cont x S1 rfl F1 H1 μ1 v g s1 r hb (er.fwd g)
  | err e S1 =>
    exact (sa (by simp) σ F H μ rel st (fun e' S' q => by cases q; exact er e S1 rfl)).mono fun v H1 h => h.elim
  | bad => exact absurd rfl hb
end
/-! ### the context -/
structure FnF (X : Cx) (Z : Zt) (T : Tb) (df : Nat → Nat → List Df) (lv f : Nat) (fa : Addr) : Prop where
  ok : ∃ fd ps, FnOk X.prog X.w X.K X.mg X.base (L2.CX X.prog X.w) lv fa fd ps (spF (kx X Z) ps.length (T.fs f)) ∧ (∀ (S : Sto) (ws : List W), T.fs f S ws ≠ .bad → ws.length = ps.length) ∧ Binds X.K fd ps [] ∧ ∀ n, n + (df f n).length = ps.length → ∃ dvs ds, Vals dvs ds ∧ Binds X.K fd ps ds ∧ ∀ F, Rps (kx X Z) F ((df f n).map Df.d) dvs
  kp : PySem.W.keepIn X.K (.ref fa) = true
structure ClsF (X : Cx) (Z : Zt) (T : Tb) (df : Nat → Nat → List Df) (lv c : Nat) : Prop where
  cls : Cls X.K (Z.ca c)
  nd : (T.ci c).flds.Nodup
  few : (T.ci c).flds.length < 1000
  self : PySem.W.selfFirst X.K (Z.ca c) = true
  tyo : ∀ (H : Hp) (a dx : Addr) (fs : List (Str × V)), H a = some (.ins (Z.ca c) dx fs) → TyOf X.K H (.ref a) (.ref (Z.ca c))
  noat : ∀ f ∈ (T.ci c).flds, NoAttr X.K (Z.ca c) f
  meth : ∀ m f, asc m (T.ci c).mths = some f → m ∉ (T.ci c).flds ∧ ∃ fa, Meth X.K (Z.ca c) m fa ∧ FnF X Z T df lv f fa
  prop : ∀ m f, asc m (T.ci c).prps = some f → ∃ p fa, PropOf X.K (Z.ca c) m p fa ∧ FnF X Z T df lv f fa
  con : ∀ a d, asc a (T.ci c).cons = some d → a ∉ (T.ci c).flds ∧ ∃ v u, Con X.K (Z.ca c) a v u ∧ ∀ F, Rp (kx X Z) F d v
def bltNames : List Str := ["len", "int", "all", "any", "list", "tuple", "str", "bool", "range", "min", "max", "isinstance", "sorted", "sum", "iter", "set", "zip", "enumerate"]
structure Cok (X : Cx) (M : Nm) (T : Tb) (Z : Zt) (lv : Nat) : Prop where
  room : Room (lv + 1) X.A
  nd : X.N.Nodup
  hN : X.N = M.N
  calm : X.calm = true
  kind : X.env.scope.kind = .function
  pass : PassesOwn (model X.prog X.w) X.A X.env X.xe
  ci : Z.ci = T.ci
  glo : ∀ (j : Nat) (x : Str), M.cs j = some x → ∃ d v u, T.cs j = some d ∧ X.mg x = some u ∧ RelV v u ∧ ∀ F, Rp (kx X Z) F d v
  fn : ∀ (i : Nat) (x : Str), M.fs i = some x → ∃ fa, X.mg x = some (.ref fa) ∧ FnF X Z T M.df lv i fa
  cl : ∀ c, T.ci c = default ∨ ClsF X Z T M.df lv c
  nm : ∀ (c : Nat) (x : Str), M.cl c = some x → X.mg x = some (.ref (Z.ca c))
  ini : ∀ (c f : Nat) (x : Str), M.ini c = some f → M.cl c = some x → ∃ fa, Mk X.K (Z.ca c) fa ∧ FnF X Z T M.df lv f fa
  sub : ∀ (c c' : Nat) (x : Str), M.cl c' = some x → T.ci c ≠ default → PySem.W.kitOne X.K (.ref (Z.ca c)) (.ref (Z.ca c')) = some ((T.ci c).sups.contains c')
  nos : ∀ (c' : Nat) (x : Str) (t : String), M.cl c' = some x → t ∈ ["NoneType", "bool", "int", "str", "tuple", "list"] → PySem.W.kitOne X.K (.type t) (.ref (Z.ca c')) = some false
  isb : ∀ (c : Nat) (t : Ty), T.ci c ≠ default → PySem.W.kitOne X.K (.ref (Z.ca c)) (.type (tyS t)) = some false
  blt : ∀ x ∈ bltNames, X.mg x = none
end NV

namespace NV
open PySem L2

section
variable {X : Cx} {Z : Zt} {T : Tb} {df : Nat → Nat → List Df} {lv f : Nat} {fa : Addr} {σ : St} {F H : Hp} {μ : Nat → Addr} {S : Sto}
theorem dfs_map (ds : List Df) : dfs ds = (ds.map Df.d).map W.v := by unfold dfs; rw [List.map_map]; rfl
theorem Out.ne_cases {α : Type} {o : Out α} (h : o ≠ .bad) : (∃ a S, o = .ok a S) ∨ ∃ e S, o = .err e S := by
  cases o with
  | ok a S => exact .inl ⟨a, S, rfl⟩
  | err e S => exact .inr ⟨e, S, rfl⟩
  | bad => exact absurd rfl h
theorem StoOk.nil {k : Kx} (s : StoOk k F H μ S) : StoOk k F H μ [] := ⟨s.sub, fun n c h => by simp at h, fun n m c c' h => by simp at h⟩
theorem PoX.over {k : Kx} {μ0 : Nat → Addr} {e : Er} {S' : Sto} {cls : Value} {d : Option Addr} {H' : Hp} (s : StoOk k F H μ S) (h : PoX k F H μ0 [] e S' cls d H') : PoX k F H μ S e S cls d H' := by
  obtain ⟨F', μ', g, s', r⟩ := h
  obtain ⟨g0, s0⟩ := g.over s'.sub s
  exact ⟨F', μ, g0, s0, r⟩
/-- what callW asks of the def's promise -/
theorem call_sp {k : Kx} {n : Nat} {ws : List W} {vs : List V} (st : StoOk k F H μ S) (hw : RpWs k F μ S.length ws vs) (hn : vs.length = n) {o : Out W} (ho : callW T f ws S = o) (hb : o ≠ .bad) {E : XK} (hE : ∀ e S', o = .err e S' → ∀ cls d H', PoX k F H μ S e S' cls d H' → E cls d H') {Q : VK} (hQ : ∀ v H', PoO k F H μ S o v H' → Q v H') :
    spF k n (T.fs f) vs H Q E := by
  refine ⟨hn, ?_⟩
  unfold callW at ho
  split at ho
  · rename_i ds hds
    have hw0 : RpWs k F μ 0 ws vs := by rw [unV_map hds]; exact (hw.unV hds).ws
    refine ⟨F, μ, [], ws, st.nil, hw0, ?_⟩
    cases hf : T.fs f [] ws with
    | bad => rw [hf] at ho; exact absurd ho.symm hb
    | ok w S1 =>
      rw [hf] at ho
      refine .inl ⟨w, S1, rfl, fun v H' p => hQ v H' ?_⟩
      have ho : emb S w S1 = o := ho
      rcases Out.ne_cases hb with ⟨w', S2, rfl⟩ | ⟨e, S2, rfl⟩
      · exact emb_ok st p ho
      · unfold emb at ho
        split at ho
        · cases ho
        · split at ho
          · split at ho <;> cases ho
          · cases ho
    | err e S1 =>
      rw [hf] at ho
      have ho : Out.err e S = o := ho
      subst ho
      exact .inr ⟨e, S1, rfl, fun cls d H' p => hE e S rfl cls d H' (p.over st)⟩
  · refine ⟨F, μ, S, ws, st, hw, ?_⟩
    cases hf : T.fs f S ws with
    | bad => rw [hf] at ho; exact absurd ho.symm hb
    | ok w S1 =>
      rw [hf] at ho
      have ho : opt (cut S.length S1) (stoK S.length w S1) = o := ho
      refine .inl ⟨w, S1, rfl, fun v H' p => hQ v H' ?_⟩
      rcases Out.ne_cases hb with ⟨w', S2, rfl⟩ | ⟨e, S2, rfl⟩
      · obtain ⟨S0, h1, h2⟩ := opt_ok ho
        exact sto_ok st p h1 h2
      · obtain ⟨S0, h1, h2⟩ := opt_err ho
        unfold stoK at h2
        split at h2
        · cases h2
        · split at h2
          · cases h2
          · split at h2
            · split at h2 <;> cases h2
            · cases h2
    | err e S1 =>
      rw [hf] at ho
      have ho : opt (cut S.length S1) (errK e) = o := ho
      refine .inr ⟨e, S1, rfl, fun cls d H' p => ?_⟩
      rcases Out.ne_cases hb with ⟨w', S2, rfl⟩ | ⟨e', S2, rfl⟩
      · obtain ⟨S0, h1, h2⟩ := opt_ok ho
        cases h2
      · obtain ⟨S0, h1, h2⟩ := opt_err ho
        cases h2
        refine hE e S2 rfl cls d H' ?_
        obtain ⟨F', μ', g, s', r⟩ := p
        exact ⟨F', μ', g.cut rfl h1, s'.cut h1, r⟩
theorem callW_ne {ws : List W} (h : callW T f ws S ≠ .bad) : ∃ S0, T.fs f S0 ws ≠ .bad := by
  unfold callW at h
  split at h
  · exact ⟨[], fun q => h (by rw [q]; rfl)⟩
  · exact ⟨S, fun q => h (by rw [q]; rfl)⟩
/-- a call of a def -/
theorem caw_gen {fd : FuncData} {ps : List Str} (hF : FnOk X.prog X.w X.K X.mg X.base (L2.CX X.prog X.w) lv fa fd ps (spF (kx X Z) ps.length (T.fs f))) (har : ∀ (S : Sto) (ws : List W), T.fs f S ws ≠ .bad → ws.length = ps.length) (hr : Room lv X.A)
    {dvs : List V} {dd : List Value} {dl : List D} (hv : Vals dvs dd) (hbn : Binds X.K fd ps dd) (hrp : Rps (kx X Z) F dl dvs) {ws : List W} {vs : List V} (st : StoOk (kx X Z) F H μ S) (hw : RpWs (kx X Z) F μ S.length ws vs) (hb : callW T f (ws ++ dl.map W.v) S ≠ .bad)
    (er : ErrE X (kx X Z) σ F H μ S (callW T f (ws ++ dl.map W.v) S)) : CaW X σ (.ref fa) vs H (PoO (kx X Z) F H μ S (callW T f (ws ++ dl.map W.v) S)) := by
  intro pins s us I rv
  obtain ⟨S0, hne⟩ := callW_ne hb
  have hlen := har _ _ hne
  have hw' : RpWs (kx X Z) F μ S.length (ws ++ dl.map W.v) (vs ++ dvs) := hw.app hrp.ws
  rcases Out.ne_cases hb with ⟨w, S1, ho⟩ | ⟨e, S1, ho⟩
  · exact run_fnSD (E := fun _ _ _ _ => False) hF hr hbn hv Ps.never I rv (call_sp st hw' (by rw [hw'.len]; exact hlen) rfl hb (fun e S' q => by rw [ho] at q; cases q) fun v H' p => p)
  · exact run_fnSD (E := fun _ => PoX (kx X Z) F H μ S e S1) hF hr hbn hv (er e S1 ho) I rv (call_sp st hw' (by rw [hw'.len]; exact hlen) rfl hb (fun e' S' q => by rw [ho] at q; cases q; exact fun _ _ _ z => z) fun v H' p => p)
theorem caw_fn (FF : FnF X Z T df lv f fa) (hr : Room lv X.A) {ws : List W} {vs : List V} (st : StoOk (kx X Z) F H μ S) (hw : RpWs (kx X Z) F μ S.length ws vs) {ds : List Df} (hds : df f ws.length = ds) (hb : callW T f (ws ++ dfs ds) S ≠ .bad)
    (er : ErrE X (kx X Z) σ F H μ S (callW T f (ws ++ dfs ds) S)) : CaW X σ (.ref fa) vs H (PoO (kx X Z) F H μ S (callW T f (ws ++ dfs ds) S)) := by
  obtain ⟨fd, ps, hF, har, _, hbd⟩ := FF.ok
  obtain ⟨S0, hne⟩ := callW_ne hb
  have hlen := har _ _ hne
  have hl2 : ws.length + (df f ws.length).length = ps.length := by
    rw [← hlen, List.length_append, hds, dfs_map, List.length_map, List.length_map]
  obtain ⟨dvs, dd, hv, hbn, hrp⟩ := hbd _ hl2
  rw [hds] at hrp
  rw [dfs_map] at hb er ⊢
  exact caw_gen hF har hr hv hbn (hrp F) st hw hb er
theorem caw_sp (FF : FnF X Z T df lv f fa) (hr : Room lv X.A) {ws : List W} {vs : List V} (st : StoOk (kx X Z) F H μ S) (hw : RpWs (kx X Z) F μ S.length ws vs) (hb : callW T f ws S ≠ .bad)
    (er : ErrE X (kx X Z) σ F H μ S (callW T f ws S)) : CaW X σ (.ref fa) vs H (PoO (kx X Z) F H μ S (callW T f ws S)) := by
  obtain ⟨fd, ps, hF, har, h0, _⟩ := FF.ok
  have := caw_gen (dl := []) (σ := σ) (ws := ws) hF har hr .nil h0 Rps.nil' st hw (by rw [List.map_nil, List.append_nil]; exact hb) (by rw [List.map_nil, List.append_nil]; exact er)
  rw [List.map_nil, List.append_nil] at this
  exact this
/-! ### an instance is made -/
theorem FldOk.nil {ns : List Str} : FldOk ns [] [] := ⟨Nat.zero_le _, fun i f _ => by simp, fun f _ => rfl, Nat.le_refl _⟩
theorem mk_sto {k : Kx} (st : StoOk k F H μ S) {x dx : Addr} (hx : H x = none) (hdx : H dx = none) (hne : dx ≠ x) (c : Nat) :
    Gr F H μ S F (upd (upd H dx (.own x)) x (.ins (k.ca c) dx [])) (mu1 μ S.length x) (S ++ [.ins c []]) ∧ StoOk k F (upd (upd H dx (.own x)) x (.ins (k.ca c) dx [])) (mu1 μ S.length x) (S ++ [.ins c []]) := by
  have np : ∀ (m : Nat) (c' : Cell), S[m]? = some c' → c' ≠ .dead → μ m ≠ x ∧ μ m ≠ dx := fun m c' h d => by
    obtain ⟨o, ho⟩ := (st.cell m c' h).some d
    exact ⟨fun e => (by rw [e, hx] at ho; cases ho), fun e => (by rw [e, hdx] at ho; cases ho)⟩
  have e1 : ∀ a o, H a = some o → upd (upd H dx (.own x)) x (.ins (k.ca c) dx []) a = some o := fun a o h => by
    rw [upd_ne (ne_of_none h hx), upd_ne (ne_of_none h hdx)]; exact h
  have g0 : Gr F H μ S F (upd (upd H dx (.own x)) x (.ins (k.ca c) dx [])) μ S := ⟨fun a h => by
    by_cases e : a = x
    · subst e; exact hx
    · rw [upd_ne e] at h
      by_cases e' : a = dx
      · subst e'; exact hdx
      · rw [upd_ne e'] at h; exact h, fun a o h _ => e1 a o h, Same.refl _, fun a o h => .inl h, Nat.le_refl _, fun _ _ => rfl, fun _ h => h, fun n c' hn h => by rw [List.getElem?_eq_none_iff.mpr hn] at h; cases h⟩
  have s0 : StoOk k F (upd (upd H dx (.own x)) x (.ins (k.ca c) dx [])) μ S := ⟨fun a o h => e1 a o (st.sub a o h), fun n c' h => (st.cell n c' h).mono (fun d => by
    obtain ⟨o, ho⟩ := (st.cell n c' h).some d
    rw [ho]; exact e1 _ _ ho) (Same.refl _) (fun d => (st.cell n c' h).fnone d) (fun _ _ => rfl) (Nat.le_refl _), st.inj⟩
  exact adopt g0 s0 hx (fun m c' h d => (np m c' h d).1) ⟨dx, [], [], upd_same, st.sub.free hx, .nil, RpWs.nil'⟩
/-- the cell of a new instance, alone -/
theorem mk_sto0 {k : Kx} (st : StoOk k F H μ S) {x dx : Addr} (hx : H x = none) (hdx : H dx = none) (hne : dx ≠ x) (c : Nat) :
    Gr F H μ [] F (upd (upd H dx (.own x)) x (.ins (k.ca c) dx [])) (fun _ => x) [.ins c []] ∧ StoOk k F (upd (upd H dx (.own x)) x (.ins (k.ca c) dx [])) (fun _ => x) [.ins c []] := by
  obtain ⟨g, s⟩ := mk_sto (st.nil) hx hdx hne c
  have e : ∀ n : Nat, n < 1 → mu1 μ 0 x n = x := fun n h => by
    have : n = 0 := by omega
    subst this
    exact mu1_same
  refine ⟨⟨g.dom, g.h, g.f, g.new, g.len, fun n h => absurd h (by simp), g.dd, fun n c' hn h d => hx⟩, ⟨s.sub, fun n c' h => ?_, fun n m c1 c2 h1 h2 _ _ _ => ?_⟩⟩
  · have hn : n < 1 := (List.getElem?_eq_some_iff.mp h).1
    have := s.cell n c' h
    simp only [List.length_nil, e n hn] at this
    exact this.mono (fun _ => rfl) (Same.refl _) (fun d => this.fnone d) (fun m hm => (e m (by simpa using hm)).symm) (by simp)
  · have := (List.getElem?_eq_some_iff.mp h1).1
    have := (List.getElem?_eq_some_iff.mp h2).1
    simp at *
    omega
theorem make_sp {k : Kx} {n c : Nat} {ws : List W} {vs : List V} (st : StoOk k F H μ S) (hw : RpWs k F μ S.length ws vs) (hn : vs.length + 1 = n) {o : Out W} (ho : makeW T c f ws S = o) (hb : o ≠ .bad) {E : XK} (hE : ∀ e S', o = .err e S' → ∀ cls d H', PoX k F H μ S e S' cls d H' → E cls d H') {Q : VK} (hQ : ∀ v H', PoO k F H μ S o v H' → Q v H')
    {x dx : Addr} (hx : H x = none) (hdx : H dx = none) (hne : dx ≠ x) : spF k n (T.fs f) (.ref x :: vs) (upd (upd H dx (.own x)) x (.ins (k.ca c) dx [])) (fun v H2 => v = .non ∧ Q (.ref x) H2) E := by
  refine ⟨hn, ?_⟩
  unfold makeW at ho
  split at ho
  · rename_i ds hds
    obtain ⟨g, s⟩ := mk_sto0 st hx hdx hne c
    have hw0 : RpWs k F (fun _ => x) 1 ws vs := by rw [unV_map hds]; exact (hw.unV hds).ws
    refine ⟨F, fun _ => x, [.ins c []], .r 0 :: ws, s, RpWs.cons' ⟨rfl, Nat.zero_lt_one⟩ hw0, ?_⟩
    cases hf : T.fs f [.ins c []] (.r 0 :: ws) with
    | bad => rw [hf] at ho; exact absurd ho.symm hb
    | ok w S1 =>
      rw [hf] at ho
      refine .inl ⟨w, S1, rfl, fun v H' p => ?_⟩
      obtain ⟨F', μ', g', s', r⟩ := p
      cases w with
      | r m => exact absurd ho.symm hb
      | v d =>
        cases d with
        | non =>
          have ho : emb S (.r 0) S1 = o := ho
          refine ⟨by simpa [RpW, Rp] using r, hQ _ _ ?_⟩
          have p0 : PoW k F H μ [] (.r 0) S1 (.ref x) H' := ⟨F', μ', Gr.trans ⟨g.dom, g.h, g.f, g.new, g.len, fun n h => absurd h (by simp), g.dd, g.fresh⟩ g', s', by rw [g'.mu 0 (by simp)], by have := g'.len; simp at this; omega⟩
          rcases Out.ne_cases hb with ⟨w', S2, rfl⟩ | ⟨e, S2, rfl⟩
          · exact emb_ok st p0 ho
          · unfold emb at ho
            simp only at ho
            split at ho
            · split at ho <;> cases ho
            · cases ho
        | _ => exact absurd ho.symm hb
    | err e S1 =>
      rw [hf] at ho
      have ho : Out.err e S = o := ho
      subst ho
      refine .inr ⟨e, S1, rfl, fun cls d H' p => hE e S rfl cls d H' ?_⟩
      obtain ⟨F', μ', g', s', r⟩ := p
      exact PoX.over (μ0 := μ) st ⟨F', μ', g.trans g', s', r⟩
  · obtain ⟨g, s⟩ := mk_sto st hx hdx hne c
    refine ⟨F, _, S ++ [.ins c []], .r S.length :: ws, s, RpWs.cons' ⟨by rw [mu1_same], by simp⟩ (hw.gr g), ?_⟩
    cases hf : T.fs f (S ++ [.ins c []]) (.r S.length :: ws) with
    | bad => rw [hf] at ho; exact absurd ho.symm hb
    | ok w S1 =>
      rw [hf] at ho
      refine .inl ⟨w, S1, rfl, fun v H' p => ?_⟩
      obtain ⟨F', μ', g', s', r⟩ := p
      cases w with
      | r m => exact absurd ho.symm hb
      | v d =>
        cases d with
        | non =>
          have ho : opt (cut (S.length + 1) S1) (fun S1 => Out.ok (W.r S.length) S1) = o := ho
          refine ⟨by simpa [RpW, Rp] using r, hQ _ _ ?_⟩
          rcases Out.ne_cases hb with ⟨w', S2, rfl⟩ | ⟨e, S2, rfl⟩
          · obtain ⟨S0, h1, h2⟩ := opt_ok ho
            cases h2
            refine ⟨F', μ', g.trans (g'.cut (by simp) h1), s'.cut h1, ?_, ?_⟩
            · rw [g'.mu S.length (by simp), mu1_same]
            · rw [(cut_some h1).2.2.1]; omega
          · obtain ⟨S0, h1, h2⟩ := opt_err ho
            cases h2
        | _ => exact absurd ho.symm hb
    | err e S1 =>
      rw [hf] at ho
      have ho : opt (cut S.length S1) (errK e) = o := ho
      refine .inr ⟨e, S1, rfl, fun cls d H' p => ?_⟩
      rcases Out.ne_cases hb with ⟨w', S2, rfl⟩ | ⟨e', S2, rfl⟩
      · obtain ⟨S0, h1, h2⟩ := opt_ok ho
        cases h2
      · obtain ⟨S0, h1, h2⟩ := opt_err ho
        cases h2
        refine hE e S2 rfl cls d H' ?_
        obtain ⟨F', μ', g', s', r⟩ := p
        exact ⟨F', μ', (g.trans g').cut rfl h1, s'.cut h1, r⟩
theorem makeW_ne {c : Nat} {ws : List W} (h : makeW T c f ws S ≠ .bad) : ∃ S0 m, T.fs f S0 (.r m :: ws) ≠ .bad := by
  unfold makeW at h
  split at h
  · exact ⟨[.ins c []], 0, fun q => h (by rw [q]; rfl)⟩
  · exact ⟨S ++ [.ins c []], S.length, fun q => h (by rw [q]; rfl)⟩
theorem run_makeS {CX : CXT} {k : Nat} {C fa : Addr} {fd : FuncData} {ps : List Str} {sp : Sp} {dvs : List V} {ds : List Value} {E : XK} {pins : List (Addr × Obj)} {s : Shared} {Q : VK} {us : List Value} {vs : List V} (M : Mk X.K C fa) (F : FnOk X.prog X.w X.K X.mg X.base CX k fa fd ps sp) (hr : Room (k + 1) X.A) (hb : Binds X.K fd ps ds) (hd : Vals dvs ds)
    (hx : PassesAt CX X σ E) (I : Inv X pins σ H s) (r : Vals vs us)
    (h : ∀ x dx, H x = none → H dx = none → dx ≠ x → sp (.ref x :: (vs ++ dvs)) (upd (upd H dx (.own x)) x (.ins C dx [])) (fun v H2 => v = .non ∧ Q (.ref x) H2) E) :
    wpAny (model X.prog X.w) X.A (call (.ref C) us) (EP X pins σ Q) X.xe s := by
  have hq := h (s.heap.objs.size + 1) s.heap.objs.size (I.hok.fresh (Nat.le_succ _)) (I.hok.fresh (Nat.le_refl _)) (Nat.ne_of_lt (Nat.lt_succ_self _))
  have I2 := Inv.made (C := C) I
  have r2 : Vals (V.ref (s.heap.objs.size + 1) :: (vs ++ dvs)) (Value.ref (s.heap.objs.size + 1) :: (us ++ ds)) := .cons rfl (r.append hd)
  have hl : (Value.ref (s.heap.objs.size + 1) :: us ++ ds).length = ps.length := by
    have e := r2.length
    rw [F.len _ _ _ _ hq] at e
    exact e.symm
  refine wpAny_call (make_map (f := fa) I.kIn M.makes M.init (beq_iff_eq.mp M.fn) (codeAny_mono (F.run _ X.stack _ _ ⟨Value.ref (s.heap.objs.size + 1) :: us, []⟩ (Value.ref (s.heap.objs.size + 1) :: (us ++ ds)) _ _ E (hr.make C us [])
    (I2.env0.make C us []) (hb _ (Value.ref (s.heap.objs.size + 1) :: us) I2.kIn hl) r2 hq) fun r s' hq' => ?_))
  cases r with
  | error e => exact hx pins _ _ e s' I2 hq'
  | ok fl =>
    cases fl with
    | ret u =>
      obtain ⟨v, H', I3, rv, ev, q3⟩ := I2.after hq'
      subst ev
      exact ⟨rv, ⟨V.ref (s.heap.objs.size + 1), H', I3, rfl, q3⟩⟩
    | next => exact False.elim hq'
    | brk => exact False.elim hq'
    | cont => exact False.elim hq'
theorem caw_mk {c : Nat} (M : Mk X.K (Z.ca c) fa) (FF : FnF X Z T df lv f fa) (hr : Room (lv + 1) X.A) {ws : List W} {vs : List V} (st : StoOk (kx X Z) F H μ S) (hw : RpWs (kx X Z) F μ S.length ws vs) {ds : List Df} (hds : df f (ws.length + 1) = ds) (hb : makeW T c f (ws ++ dfs ds) S ≠ .bad)
    (er : ErrE X (kx X Z) σ F H μ S (makeW T c f (ws ++ dfs ds) S)) : CaW X σ (.ref (Z.ca c)) vs H (PoO (kx X Z) F H μ S (makeW T c f (ws ++ dfs ds) S)) := by
  intro pins s us I rv
  obtain ⟨fd, ps, hF, har, _, hbd⟩ := FF.ok
  obtain ⟨S0, m, hne⟩ := makeW_ne hb
  have hlen := har _ _ hne
  have hl2 : ws.length + 1 + (df f (ws.length + 1)).length = ps.length := by
    rw [← hlen, List.length_cons, List.length_append, hds, dfs_map, List.length_map, List.length_map]; omega
  obtain ⟨dvs, dd, hv, hbn, hrp⟩ := hbd _ hl2
  have hw' : RpWs (kx X Z) F μ S.length (ws ++ dfs ds) (vs ++ dvs) := hw.app (by rw [dfs_map, ← hds]; exact (hrp F).ws)
  have hz : (vs ++ dvs).length + 1 = ps.length := by rw [hw'.len, ← hlen, List.length_cons]
  rcases Out.ne_cases hb with ⟨w, S1, ho⟩ | ⟨e, S1, ho⟩
  · exact run_makeS (E := fun _ _ _ => False) M hF hr hbn hv Ps.never I rv fun x dx h1 h2 h3 => make_sp (k := kx X Z) (c := c) st hw' hz rfl hb (fun e S' q => by rw [ho] at q; cases q) (fun v H' p => p) h1 h2 h3
  · exact run_makeS (E := PoX (kx X Z) F H μ S e S1) M hF hr hbn hv (er e S1 ho) I rv fun x dx h1 h2 h3 => make_sp (k := kx X Z) (c := c) st hw' hz rfl hb (fun e' S' q => by rw [ho] at q; cases q; exact fun _ _ _ z => z) (fun v H' p => p) h1 h2 h3
end
end NV

namespace NV
open PySem L2

section
variable {k : Kx} {F H : Hp} {μ : Nat → Addr} {S : Sto}
/-! ### what a value is -/
theorem obj_at (st : StoOk k F H μ S) {w : W} {v : V} (h : RpW k F μ S.length w v) {c : Nat} {l : List W} (e : objOf S w = some (c, l)) : ∃ a dx fs vs, v = .ref a ∧ H a = some (.ins (k.ca c) dx fs) ∧ FldOk (k.ci c).flds vs fs ∧ RpWs k F μ S.length l vs := by
  unfold objOf at e
  split at e
  · cases e
    simp only [RpW, Rp] at h
    obtain ⟨a, dx, fs, vs, h1, h2, h3, h4⟩ := h
    exact ⟨a, dx, fs, vs, h1, st.sub _ _ h2, h3, h4.ws⟩
  · split at e
    · rename_i hc
      cases e
      obtain ⟨dx, fs, vs, h1, h2, h3, h4⟩ := st.cell _ _ hc
      exact ⟨_, dx, fs, vs, h.1, h1, h3, h4⟩
    · cases e
  · cases e
theorem seq_at (st : StoOk k F H μ S) {w : W} {v : V} (h : RpW k F μ S.length w v) {l : List W} (e : seqOf S w = some l) : ∃ a vs, v = .ref a ∧ (SqL k.K H a vs ∨ SqT k.K H a vs) ∧ RpWs k F μ S.length l vs := by
  unfold seqOf at e
  split at e
  · cases e
    simp only [RpW, Rp] at h
    obtain ⟨a, vs, h1, h2, h3⟩ := h
    exact ⟨a, vs, h1, .inl (.of (st.sub _ _ h2)), h3.ws⟩
  · cases e
    simp only [RpW, Rp] at h
    obtain ⟨a, vs, h1, h2, h3⟩ := h
    exact ⟨a, vs, h1, .inr (sqT_mono st.sub h2), h3.ws⟩
  · split at e
    · rename_i hc
      cases e
      obtain ⟨vs, h1, h2, h3⟩ := st.cell _ _ hc
      exact ⟨_, vs, h.1, .inl (.of h1), h3⟩
    · rename_i hc
      cases e
      obtain ⟨vs, h1, h2, h3⟩ := st.cell _ _ hc
      exact ⟨_, vs, h.1, .inr (.of h1), h3⟩
    · cases e
  · cases e
theorem list_at (st : StoOk k F H μ S) {w : W} {v : V} (h : RpW k F μ S.length w v) {l : List W} (e : listOf S w = some l) : ∃ a vs, v = .ref a ∧ H a = some (.lst vs) ∧ RpWs k F μ S.length l vs := by
  unfold listOf at e
  split at e
  · cases e
    simp only [RpW, Rp] at h
    obtain ⟨a, vs, h1, h2, h3⟩ := h
    exact ⟨a, vs, h1, st.sub _ _ h2, h3.ws⟩
  · split at e
    · rename_i hc
      cases e
      obtain ⟨vs, h1, h2, h3⟩ := st.cell _ _ hc
      exact ⟨_, vs, h.1, h1, h3⟩
    · cases e
  · cases e
theorem int_at {w : W} {v : V} {N : Nat} (h : RpW k F μ N w v) {i : Int} (e : intW w = some i) : v = .int i := by
  unfold intW at e
  split at e
  · cases e
    simpa [RpW, Rp] using h
  · cases e
theorem bl_at {v : V} {N : Nat} {b : Bool} (h : RpW k F μ N (.v (.bl b)) v) : v = .bl b := by simpa [RpW, Rp] using h
end

/-! ### operators by values -/
def rBin : BO → R2
  | .add => fun x y H Q => (rI0 (fun i j => .int (i + j)) x y H Q ∨ (∃ i j, x = .str i ∧ y = .str j ∧ i.length + j.length ≤ sizeLine ∧ Q (.str (i ++ j)) H)) ∨ rCat x y H Q
  | .sub => rI0 fun i j => .int (i - j)
  | .mul => fun x y H Q => rI CMul (fun i j => .int (i * j)) x y H Q ∨ rRep x y H Q
  | .fdiv => rI CDivW fun i j => .int (i / j)
  | .mod => rI (fun _ j => 0 < j) fun i j => .int (i % j)
  | .pow => rI CPow fun i j => .int (i ^ j.toNat)
  | _ => fun _ _ _ _ => False
section
variable {X : Cx}
theorem op_false {f : Value → Value → Sem Value} : OpR X f (fun _ _ _ _ => False) := fun _ _ _ _ _ _ _ _ _ _ _ _ h => h.elim
theorem opBin : ∀ op : BO, OpR X (binaryOp (bOp op)) (rBin op)
  | .add => (op_add.or op_add_str).or op_cat
  | .sub => op_sub
  | .mul => op_mul.or op_rep
  | .fdiv => op_fdivW
  | .mod => op_mod
  | .pow => op_pow
  | .and => op_false
  | .or => op_false
  | .xor => op_false
end
theorem smallI_iff {i : Int} (h : smallI i = true) : -(2 ^ 64) < i ∧ i < 2 ^ 64 := by
  unfold smallI at h
  simpa using h
theorem binD_ok {k : Kx} {F H : Hp} {μ : Nat → Addr} {S : Sto} {op : BO} {x y d : D} {v u : V} {Q : VK} (st : StoOk k F H μ S) (hx : Rp k F x v) (hy : Rp k F y u) (h : binD op x y = some d) (q : ∀ v H', PoW k F H μ S (.v d) S v H' → Q v H') : rBin op v u H Q := by
  unfold binD at h
  split at h
  · cases h
    simp only [Rp] at hx hy; subst hx hy
    exact .inl (.inl ⟨_, _, rfl, rfl, q _ _ (.int st)⟩)
  · split at h <;> cases h
    simp only [Rp] at hx hy; subst hx hy
    exact .inl (.inr ⟨_, _, rfl, rfl, by assumption, q _ _ (.str st)⟩)
  · cases h
    simp only [Rp] at hx hy; subst hx hy
    exact ⟨_, _, rfl, rfl, q _ _ (.int st)⟩
  · split at h <;> cases h
    rename_i c
    simp only [Rp] at hx hy; subst hx hy
    refine .inl ⟨_, _, rfl, rfl, ?_, q _ _ (.int st)⟩
    rcases Bool.or_eq_true _ _ ▸ c with c | c
    · exact .inl (smallI_iff c)
    · exact .inr (smallI_iff c)
  · split at h <;> cases h
    rename_i c
    simp only [Rp] at hx hy; subst hx hy
    exact ⟨_, _, rfl, rfl, c, q _ _ (.int st)⟩
  · split at h <;> cases h
    rename_i c
    simp only [Rp] at hx hy; subst hx hy
    exact ⟨_, _, rfl, rfl, c, q _ _ (.int st)⟩
  · split at h <;> cases h
    rename_i c
    simp only [Rp] at hx hy; subst hx hy
    exact ⟨_, _, rfl, rfl, c, q _ _ (.int st)⟩
  · cases h
theorem alc_ok {c : Cell} {S S' : Sto} {w : W} (h : alc c S = .ok w S') : w = .r S.length ∧ S' = S ++ [c] := by unfold alc at h; cases h; exact ⟨rfl, rfl⟩
theorem okD_ok {S S' : Sto} {d : D} {w : W} (h : okD S d = .ok w S') : w = .v d ∧ S' = S := by unfold okD at h; cases h; exact ⟨rfl, rfl⟩
theorem okB_ok {S S' : Sto} {d : Bool} {w : W} (h : okB S d = .ok w S') : w = .v (.bl d) ∧ S' = S := by unfold okB at h; cases h; exact ⟨rfl, rfl⟩
theorem okW_ok {S S' : Sto} {d : W} {w : W} (h : okW S d = .ok w S') : w = d ∧ S' = S := by unfold okW at h; cases h; exact ⟨rfl, rfl⟩
theorem binL_ok {k : Kx} {F H : Hp} {μ : Nat → Addr} {S S' : Sto} {op : BO} {x y : W} {l : List W} {v u : V} {w : W} {Q : VK} (st : StoOk k F H μ S) (hx : RpW k F μ S.length x v) (hy : RpW k F μ S.length y u) (hl : listOf S x = some l) (h : binL op l y S = .ok w S') (q : ∀ v H', PoW k F H μ S w S' v H' → Q v H') : rBin op v u H Q := by
  obtain ⟨a, vs, rfl, ha, hv⟩ := list_at st hx hl
  unfold binL at h
  split at h
  · obtain ⟨m, h1, h⟩ := opt_ok h
    obtain ⟨c, h⟩ := need_ok h
    obtain ⟨b, us, rfl, hb, hu⟩ := list_at st hy h1
    obtain ⟨rfl, rfl⟩ := alc_ok h
    exact .inr ⟨a, b, vs, us, rfl, rfl, ha, hb, by rw [hv.len, hu.len]; exact c, fun p hp => q _ _ (.newL st (hv.app hu) p hp)⟩
  · obtain ⟨i, h1, h⟩ := opt_ok h
    obtain ⟨c, h⟩ := need_ok h
    have := int_at hy h1
    subst this
    obtain ⟨rfl, rfl⟩ := alc_ok h
    exact .inr ⟨a, _, vs, rfl, rfl, ha, c.1, c.2.1, by rw [hv.len]; exact c.2.2, fun p hp => q _ _ (.newL st (hv.rep _) p hp)⟩
  · cases h
theorem need_ne {α : Type} {c : Prop} [Decidable c] {r : Out α} (h : need c r ≠ .bad) : c ∧ r ≠ .bad := by
  unfold need at h
  split at h
  · exact ⟨by assumption, h⟩
  · exact absurd rfl h
theorem opt_ne {α β : Type} {o : Option α} {f : α → Out β} (h : opt o f ≠ .bad) : ∃ a, o = some a ∧ f a ≠ .bad := by
  cases o with
  | some a => exact ⟨a, rfl, h⟩
  | none => exact absurd rfl h

/-! ### own classes -/
section
variable {X : Cx} {M : Nm} {T : Tb} {Z : Zt} {lv : Nat} {σ : St} {F H : Hp} {μ : Nat → Addr} {S : Sto}
theorem Cok.clf (C : Cok X M T Z lv) {c : Nat} (h : T.ci c ≠ default) : ClsF X Z T M.df lv c := (C.cl c).resolve_left h
theorem asc_ne {α : Type} {c : Nat} {m : Str} {a : α} {g : CInfo → List (Str × α)} (h : asc m (g (T.ci c)) = some a) (hd : g default = []) : T.ci c ≠ default := fun e => by rw [e, hd] at h; cases h
theorem no_fld {k : Kx} {ns : List Str} {vs : List V} {fs : List (Str × V)} (h : FldOk ns vs fs) {m : Str} (n : m ∉ ns) : fs.lookup m = none := h.no m n
theorem Inv.obj {pins : List (Addr × Obj)} {s : Shared} (I : Inv X pins σ H s) {a C dx : Addr} {fs : List (Str × V)} (e : H a = some (.ins C dx fs)) : ∃ ox od, PySem.W.InstAt s.heap a ox C (some od) := by
  obtain ⟨mA, O, _⟩ := ins_get I.hok e
  obtain ⟨od, J, _⟩ := O.look
  exact ⟨_, od, J⟩
theorem relV_ret {v : V} {u : Value} (r : RelV v u) {Q : Value → Shared → Prop} {s : Shared} (h : Q u s) : PySem.W.CmpBack Q u s := by
  cases v <;> first | (obtain ⟨t, rfl⟩ := r; exact h) | (cases r; exact h)
/-- x == y, x < y by an own def -/
theorem opw_rich (C : Cok X M T Z lv) {op : CmpOp} (hop : op = .Eq ∨ op = .Lt) {x y : W} {v u : V} (st : StoOk (kx X Z) F H μ S) (hx : RpW (kx X Z) F μ S.length x v) (hy : RpW (kx X Z) F μ S.length y u) {c : Nat} {l l' : List W} (ex : objOf S x = some (c, l)) (ey : objOf S y = some (c, l')) {f : Nat} (hf : asc (cmpInfo op).2.1 (T.ci c).mths = some f)
    (hb : callW T f [x, y] S ≠ .bad) (er : ErrE X (kx X Z) σ F H μ S (callW T f [x, y] S)) : OpW X (compareOp op) σ v u H (PoO (kx X Z) F H μ S (callW T f [x, y] S)) := by
  intro pins s vv uu I rv ru
  obtain ⟨a, dx, fs, vs, rfl, ha, _, _⟩ := obj_at st hx ex
  obtain ⟨b, dy, gs, us, rfl, hb', _, _⟩ := obj_at st hy ey
  obtain rfl : vv = Value.ref a := rv
  obtain rfl : uu = Value.ref b := ru
  have CF := C.clf (asc_ne (g := CInfo.mths) hf rfl)
  obtain ⟨_, fa, hm, FF⟩ := CF.meth _ _ hf
  obtain ⟨ox, od, J⟩ := Inv.obj I ha
  obtain ⟨oy, oe, J'⟩ := Inv.obj I hb'
  obtain ⟨m, hF⟩ := I.fr
  have hc : wpAny (model X.prog X.w) X.A (call (.ref fa) [.ref a, .ref b]) (PySem.W.CmpBack (EP X pins σ (PoO (kx X Z) F H μ S (callW T f [x, y] S)))) X.xe s := by
    refine thn (caw_sp (σ := σ) FF (C.room.mono (Nat.le_succ _)) st (RpWs.cons' hx (RpWs.cons' hy RpWs.nil')) hb er pins s _ I (.cons rfl (.cons rfl .nil))) fun r s' q => ?_
    obtain ⟨z, H', I', rz, q⟩ := q
    exact relV_ret rz ⟨z, H', I', rz, q⟩
  have : wpAny (model X.prog X.w) X.A (richCompare op (.ref a) (.ref b)) (EP X pins σ (PoO (kx X Z) F H μ S (callW T f [x, y] S))) X.xe s :=
    PySem.W.cmp_K (op := op) (tb := .ref (Z.ca c)) C.room.units0 hF I.ok.mod.kin J J'.type (by simp [PySem.W.notFirst]) hm.at_ hm.fn hc
  rcases hop with rfl | rfl <;> exact this
/-- x op y by an own def -/
theorem opw_bin (C : Cok X M T Z lv) {op : BO} {x y : W} {v u : V} (st : StoOk (kx X Z) F H μ S) (hx : RpW (kx X Z) F μ S.length x v) (hy : RpW (kx X Z) F μ S.length y u) {c : Nat} {l l' : List W} (ex : objOf S x = some (c, l)) (ey : objOf S y = some (c, l')) {f : Nat} (hf : asc (dnOf op) (T.ci c).mths = some f)
    (hb : callW T f [x, y] S ≠ .bad) (er : ErrE X (kx X Z) σ F H μ S (callW T f [x, y] S)) : OpW X (binaryOp (bOp op)) σ v u H (PoO (kx X Z) F H μ S (callW T f [x, y] S)) := by
  intro pins s vv uu I rv ru
  obtain ⟨a, dx, fs, vs, rfl, ha, _, _⟩ := obj_at st hx ex
  obtain ⟨b, dy, gs, us, rfl, hb', _, _⟩ := obj_at st hy ey
  obtain rfl : vv = Value.ref a := rv
  obtain rfl : uu = Value.ref b := ru
  have CF := C.clf (asc_ne (g := CInfo.mths) hf rfl)
  obtain ⟨_, fa, hm, FF⟩ := CF.meth _ _ hf
  obtain ⟨ox, od, J⟩ := Inv.obj I ha
  obtain ⟨oy, oe, J'⟩ := Inv.obj I hb'
  obtain ⟨m, hF⟩ := I.fr
  have hc : wpAny (model X.prog X.w) X.A (call (.ref fa) [.ref a, .ref b]) (PySem.W.CmpBack (EP X pins σ (PoO (kx X Z) F H μ S (callW T f [x, y] S)))) X.xe s := by
    refine thn (caw_sp (σ := σ) FF (C.room.mono (Nat.le_succ _)) st (RpWs.cons' hx (RpWs.cons' hy RpWs.nil')) hb er pins s _ I (.cons rfl (.cons rfl .nil))) fun r s' q => ?_
    obtain ⟨z, H', I', rz, q⟩ := q
    exact relV_ret rz ⟨z, H', I', rz, q⟩
  have hs : PySem.W.findIn X.K (.ref (Z.ca c)) (PySem.dunder (bOp op).info.2) = some (some (.ref fa)) := by
    have := hm.at_
    cases op <;> exact this
  exact PySem.W.binop_K hF I.ok.mod.kin J J'.type CF.self hs hm.fn hc
/-- x in y by an own def -/
theorem opw_in (C : Cok X M T Z lv) {neg : Bool} {x y : W} {v u : V} (st : StoOk (kx X Z) F H μ S) (hx : RpW (kx X Z) F μ S.length x v) (hy : RpW (kx X Z) F μ S.length y u) {c : Nat} {l' : List W} (ey : objOf S y = some (c, l')) {f : Nat} (hf : asc "__contains__" (T.ci c).mths = some f) {k : W → Sto → Out W} (hk : k = if neg then notO else boolO)
    (hb : (callW T f [y, x] S).bind k ≠ .bad) (er : ErrE X (kx X Z) σ F H μ S ((callW T f [y, x] S).bind k)) : OpW X (compareOp (if neg then .NotIn else .In)) σ v u H (PoO (kx X Z) F H μ S ((callW T f [y, x] S).bind k)) := by
  intro pins s vv uu I rv ru
  obtain ⟨b, dy, gs, us, rfl, hb', _, _⟩ := obj_at st hy ey
  obtain rfl : uu = Value.ref b := ru
  have CF := C.clf (asc_ne (g := CInfo.mths) hf rfl)
  obtain ⟨_, fa, hm, FF⟩ := CF.meth _ _ hf
  obtain ⟨oy, oe, J⟩ := Inv.obj I hb'
  obtain ⟨m, hF⟩ := I.fr
  have hne : callW T f [y, x] S ≠ .bad := fun q => hb (by rw [q]; rfl)
  have er0 : ErrE X (kx X Z) σ F H μ S (callW T f [y, x] S) := fun e S' q => er e S' (by rw [q]; rfl)
  have hc := caw_sp (σ := σ) FF (C.room.mono (Nat.le_succ _)) st (RpWs.cons' hy (RpWs.cons' hx RpWs.nil')) hne er0 pins s [.ref b, vv] I (.cons rfl (.cons rv .nil))
  have fin : ∀ r s', EP X pins σ (PoO (kx X Z) F H μ S (callW T f [y, x] S)) r s' → wpAny (model X.prog X.w) X.A (truthy r) (fun z s'' => EP X pins σ (PoO (kx X Z) F H μ S ((callW T f [y, x] S).bind k)) (.bool (if neg then !z else z)) s'') X.xe s' := by
    intro r s' ⟨z, H', I', rz, q⟩
    cases ho : callW T f [y, x] S with
    | bad => exact absurd ho hne
    | err e S1 => rw [ho] at q; exact q.elim
    | ok w S1 =>
      rw [ho] at q hb
      have hb : k w S1 ≠ .bad := hb
      subst hk
      have hw : ∃ b, w = .v (.bl b) := by
        cases w with
        | r n => cases neg <;> exact absurd rfl hb
        | v d => cases d <;> first | exact ⟨_, rfl⟩ | (cases neg <;> exact absurd rfl hb)
      obtain ⟨b, rfl⟩ := hw
      obtain ⟨F', μ', g, s0, rr⟩ := q
      have := bl_at rr
      subst this
      cases rz
      refine wpAny_truthy_bool ⟨.bl (if neg then !b else b), H', I', rfl, ?_⟩
      cases neg with
      | true => exact ⟨F', μ', g, s0, by simp [RpW, Rp]⟩
      | false => exact ⟨F', μ', g, s0, by simp [RpW, Rp]⟩
  cases neg with
  | true => exact PySem.W.notIn_K hF I.ok.mod.kin J hm.at_ hm.fn (thn hc fin)
  | false => exact PySem.W.in_K hF I.ok.mod.kin J hm.at_ hm.fn (thn hc fin)
/-- truth by an own def -/
theorem trw_own (C : Cok X M T Z lv) {x : W} {v : V} (st : StoOk (kx X Z) F H μ S) (hx : RpW (kx X Z) F μ S.length x v) {c : Nat} {l' : List W} (ex : objOf S x = some (c, l')) {f : Nat} (hf : asc "__bool__" (T.ci c).mths = some f)
    (hb : (callW T f [x] S).bind truO ≠ .bad) (er : ErrE X (kx X Z) σ F H μ S ((callW T f [x] S).bind truO)) : TrW X σ v H (PoT (kx X Z) F H μ S ((callW T f [x] S).bind truO)) := by
  intro pins s vv I rv
  obtain ⟨b, dy, gs, us, rfl, hb', _, _⟩ := obj_at st hx ex
  obtain rfl : vv = Value.ref b := rv
  have CF := C.clf (asc_ne (g := CInfo.mths) hf rfl)
  obtain ⟨_, fa, hm, FF⟩ := CF.meth _ _ hf
  obtain ⟨oy, oe, J⟩ := Inv.obj I hb'
  obtain ⟨m, hF⟩ := I.fr
  have hne : callW T f [x] S ≠ .bad := fun q => hb (by rw [q]; rfl)
  have er0 : ErrE X (kx X Z) σ F H μ S (callW T f [x] S) := fun e S' q => er e S' (by rw [q]; rfl)
  refine PySem.W.truthy_K hF I.ok.mod.kin J hm.at_ hm.fn (thn (caw_sp (σ := σ) FF (C.room.mono (Nat.le_succ _)) st (RpWs.cons' hx RpWs.nil') hne er0 pins s [.ref b] I (.cons rfl .nil)) fun r s' q => ?_)
  obtain ⟨z, H', I', rz, q⟩ := q
  cases ho : callW T f [x] S with
  | bad => exact absurd ho hne
  | err e S1 => rw [ho] at q; exact q.elim
  | ok w S1 =>
    rw [ho] at q hb
    have hw : ∃ b, w = .v (.bl b) := by
      cases w with
      | r n => exact absurd rfl hb
      | v d => cases d <;> first | exact ⟨_, rfl⟩ | exact absurd rfl hb
    obtain ⟨b, rfl⟩ := hw
    obtain ⟨F', μ', g, s0, rr⟩ := q
    have := bl_at rr
    subst this
    cases rz
    exact ⟨H', I', rfl, F', μ', g, s0⟩
/-- len by an own def -/
theorem caw_len (C : Cok X M T Z lv) {x : W} {v : V} (st : StoOk (kx X Z) F H μ S) (hx : RpW (kx X Z) F μ S.length x v) {c : Nat} {l' : List W} (ex : objOf S x = some (c, l')) {f : Nat} (hf : asc "__len__" (T.ci c).mths = some f)
    (hb : lenO (callW T f [x] S) ≠ .bad) : CaW X σ (.builtin "len") [v] H (PoO (kx X Z) F H μ S (lenO (callW T f [x] S))) := by
  intro pins s us I rv
  obtain ⟨b, dy, gs, vs, rfl, hb', _, _⟩ := obj_at st hx ex
  obtain ⟨u, rfl, ru⟩ := vals1 rv
  obtain rfl : u = Value.ref b := ru
  have CF := C.clf (asc_ne (g := CInfo.mths) hf rfl)
  obtain ⟨_, fa, hm, FF⟩ := CF.meth _ _ hf
  obtain ⟨oy, oe, J⟩ := Inv.obj I hb'
  obtain ⟨m, hF⟩ := I.fr
  obtain ⟨fd, ps, hFn, har, h0, _⟩ := FF.ok
  have hne : callW T f [x] S ≠ .bad := fun q => hb (by rw [q]; rfl)
  obtain ⟨S0, hne0⟩ := callW_ne hne
  have hlen := har _ _ hne0
  cases ho : callW T f [x] S with
  | bad => exact absurd ho hne
  | err e S1 => rw [ho] at hb; exact absurd rfl hb
  | ok w S1 =>
    rw [ho] at hb
    have hw : ∃ i, w = .v (.int i) := by
      cases w with
      | r n => exact absurd rfl hb
      | v d => cases d <;> first | exact ⟨_, rfl⟩ | exact absurd rfl hb
    obtain ⟨i, rfl⟩ := hw
    obtain ⟨hi, _⟩ := need_ne hb
    refine PySem.W.len_K hF I.ok.mod.kin J hm.at_ hm.fn ?_
    refine wpAny_call (codeAny_mono (hFn.run X.A.in1 X.stack s H ⟨[.ref b], []⟩ [.ref b] [.ref b] _ (fun _ _ _ => False) C.room.in1 I.env0.in1 (by simpa using h0 s [.ref b] I.kIn (by simpa using hlen)) (.cons rfl .nil)
      (call_sp (Q := PoO (kx X Z) F H μ S (.ok (.v (.int i)) S1)) st (RpWs.cons' hx RpWs.nil') (by simpa using hlen) ho (by simp) (fun e S' q => nomatch q) fun v H' p => p)) fun r s' hq => ?_)
    cases r with
    | error er => exact False.elim (Ps.never (X := X) (σ := σ) pins H s er s' I hq |> fun _ => by
        obtain ⟨_, _, _, _, _, _, _, _, _, _, _, _, hh⟩ := hq
        exact hh)
    | ok fl =>
      cases fl with
      | ret u =>
        obtain ⟨z, H', I3, rz, F', μ', g, s0, rr⟩ := I.after hq
        have : z = .int i := by simpa [RpW, Rp] using rr
        subst this
        obtain ⟨t, rfl⟩ := rz
        refine ⟨hi, .int i, H', I3.tok _, ⟨_, rfl⟩, ?_⟩
        show PoO (kx X Z) F H μ S (need _ (okD S1 (.int i))) _ _
        rw [need_pos hi]
        exact ⟨F', μ', g, s0, by simp [RpW, Rp]⟩
      | next => exact False.elim hq
      | brk => exact False.elim hq
      | cont => exact False.elim hq
end
end NV

namespace NV
open PySem L2

section
variable {X : Cx} {Z : Zt}
theorem is_bool_gen {M : Model} {A : Around} {E : Value → Shared → Prop} {s : Shared} {Q : Value → Shared → Prop} {v : Value} {b : Bool} (hv : ∀ p, v ≠ .builtin p) (h : Q (.bool (v == .bool b)) s) : wpAny M A (compareOp .Is v (.bool b)) Q E s := by
  cases v <;> first | exact wpAny_pure h | exact absurd rfl (hv _)
theorem isnot_bool_gen {M : Model} {A : Around} {E : Value → Shared → Prop} {s : Shared} {Q : Value → Shared → Prop} {v : Value} {b : Bool} (hv : ∀ p, v ≠ .builtin p) (h : Q (.bool (!(v == .bool b))) s) : wpAny M A (compareOp .IsNot v (.bool b)) Q E s := by
  cases v <;> first | exact wpAny_pure h | exact absurd rfl (hv _)
theorem relV_bool {x : V} {v : Value} (r : RelV x v) (b : Bool) : (∀ p, v ≠ .builtin p) ∧ (v == .bool b) = decide (x = .bl b) := by
  cases x <;> first | (obtain ⟨t, rfl⟩ := r) | (cases r)
  all_goals refine ⟨fun p z => (by cases z), ?_⟩
  all_goals first | rfl | skip
  rename_i c
  cases b <;> cases c <;> rfl
theorem op_isBg : OpR X (compareOp .Is) (fun x y H Q => ∃ b, y = .bl b ∧ Q (.bl (decide (x = .bl b))) H) := by
  intro pins s σ H x y v u Q I rx ry h
  obtain ⟨b, rfl, q⟩ := h
  cases ry
  obtain ⟨h1, h2⟩ := relV_bool rx b
  exact is_bool_gen h1 (by rw [h2]; exact ⟨.bl _, H, I, rfl, q⟩)
theorem op_notBg : OpR X (compareOp .IsNot) (fun x y H Q => ∃ b, y = .bl b ∧ Q (.bl (!decide (x = .bl b))) H) := by
  intro pins s σ H x y v u Q I rx ry h
  obtain ⟨b, rfl, q⟩ := h
  cases ry
  obtain ⟨h1, h2⟩ := relV_bool rx b
  exact isnot_bool_gen h1 (by rw [h2]; exact ⟨.bl _, H, I, rfl, q⟩)
def rCmp (X : Cx) (Z : Zt) : CO → R2
  | .eq => rTr X Z (fun a b => datD a = true ∧ datD b = true) eqD
  | .ne => rTr X Z (fun a b => datD a = true ∧ datD b = true) (fun a b => !eqD a b)
  | .lt => fun x y H Q => rI0 (fun i j => .bl (decide (i < j))) x y H Q ∨ rTr X Z (fun a b => datD a = true ∧ datD b = true ∧ ltOk 6 a b = true) ltD x y H Q
  | .le => rI0 fun i j => .bl (decide (i ≤ j))
  | .gt => rI0 fun i j => .bl (decide (j < i))
  | .ge => rI0 fun i j => .bl (decide (j ≤ i))
  | .isin => fun x y H Q => rInT X Z false x y H Q ∨ ∃ (c : Nat) (z : Str), x = .str ⟨#[c]⟩ ∧ y = .str z ∧ Q (.bl (decide (c ∈ z.cps.toList))) H
  | .notin => fun x y H Q => rInT X Z true x y H Q ∨ ∃ (c : Nat) (z : Str), x = .str ⟨#[c]⟩ ∧ y = .str z ∧ Q (.bl (!decide (c ∈ z.cps.toList))) H
  | .is => fun x y H Q => (y = .non ∧ Q (.bl (decide (x = .non))) H) ∨ ∃ b, y = .bl b ∧ Q (.bl (decide (x = .bl b))) H
  | .isnot => fun x y H Q => (y = .non ∧ Q (.bl (!decide (x = .non))) H) ∨ ∃ b, y = .bl b ∧ Q (.bl (!decide (x = .bl b))) H
theorem opCmp (hu : X.A.units + 64 < cLine) : ∀ op : CO, OpR X (compareOp (cOp op)) (rCmp X Z op)
  | .eq => op_eqT hu
  | .ne => op_neT hu
  | .lt => op_lt.or (op_ltT hu)
  | .le => op_le
  | .gt => op_gt
  | .ge => op_ge
  | .isin => (op_inT hu).or op_in_sign
  | .notin => (op_notInT hu).or op_notIn_sign
  | .is => op_isN.or op_isBg
  | .isnot => op_notN.or op_notBg
theorem Rp.isNon {k : Kx} {H : Hp} {a : D} {v : V} (h : Rp k H a v) : decide (v = .non) = isNon a := by
  cases a <;> simp only [Rp] at h <;> first | (subst h; rfl) | (obtain ⟨_, _, rfl, _⟩ := h; rfl) | (obtain ⟨_, _, _, _, rfl, _⟩ := h; rfl) | (obtain ⟨_, rfl, _⟩ := h; rfl)
theorem Rp.isBl {k : Kx} {H : Hp} {a : D} {v : V} {b : Bool} (h : Rp k H a v) : decide (v = .bl b) = isBl b a := by
  cases a <;> simp only [Rp] at h <;> first | (obtain ⟨_, _, rfl, _⟩ := h; rfl) | (obtain ⟨_, _, _, _, rfl, _⟩ := h; rfl) | (obtain ⟨_, rfl, _⟩ := h; rfl) | (subst h; rfl) | skip
  subst h
  rename_i c
  cases b <;> cases c <;> rfl
theorem one_sign {c : Str} (h : c.cps.size = 1) : c = ⟨#[c.cps.getD 0 0]⟩ := by
  obtain ⟨⟨l⟩⟩ := c
  match l, h with
  | [a], _ => rfl
theorem cmpD_ok {op : CO} {a b : D} {z : Bool} {v u : V} {H : Hp} {Q : VK} (ha : Rp (kx X Z) H a v) (hb : Rp (kx X Z) H b u) (h : cmpD op a b = some z) (q : Q (.bl z) H) : rCmp X Z op v u H Q := by
  unfold cmpD at h
  split at h
  · split at h <;> cases h
    exact ⟨a, b, by assumption, ha, hb, q⟩
  · split at h <;> cases h
    exact ⟨a, b, by assumption, ha, hb, q⟩
  · cases h
    simp only [Rp] at ha hb; subst ha hb
    exact .inl ⟨_, _, rfl, rfl, q⟩
  · split at h <;> cases h
    exact .inr ⟨a, b, by assumption, ha, hb, q⟩
  · cases h
    simp only [Rp] at ha hb; subst ha hb
    exact ⟨_, _, rfl, rfl, q⟩
  · cases h
    simp only [Rp] at ha hb; subst ha hb
    exact ⟨_, _, rfl, rfl, q⟩
  · cases h
    simp only [Rp] at ha hb; subst ha hb
    exact ⟨_, _, rfl, rfl, q⟩
  · split at h <;> cases h
    rename_i l c
    simp only [Rp] at hb
    obtain ⟨p, vs, rfl, h1, h2⟩ := hb
    exact .inl ⟨a, l, p, vs, rfl, .inl (.of h1), h2, c.1, c.2, ha, q⟩
  · split at h <;> cases h
    rename_i l c
    simp only [Rp] at hb
    obtain ⟨p, vs, rfl, h1, h2⟩ := hb
    exact .inl ⟨a, l, p, vs, rfl, .inr h1, h2, c.1, c.2, ha, q⟩
  · split at h <;> cases h
    rename_i l c
    simp only [Rp] at hb
    obtain ⟨p, vs, rfl, h1, h2⟩ := hb
    exact .inl ⟨a, l, p, vs, rfl, .inl (.of h1), h2, c.1, c.2, ha, q⟩
  · split at h <;> cases h
    rename_i l c
    simp only [Rp] at hb
    obtain ⟨p, vs, rfl, h1, h2⟩ := hb
    exact .inl ⟨a, l, p, vs, rfl, .inr h1, h2, c.1, c.2, ha, q⟩
  · split at h <;> cases h
    rename_i c
    simp only [Rp] at ha hb; subst ha hb
    exact .inr ⟨_, _, by rw [one_sign c]; rfl, rfl, q⟩
  · split at h <;> cases h
    rename_i c
    simp only [Rp] at ha hb; subst ha hb
    exact .inr ⟨_, _, by rw [one_sign c]; rfl, rfl, q⟩
  · cases h
    simp only [Rp] at hb; subst hb
    exact .inl ⟨rfl, by rw [ha.isNon]; exact q⟩
  · cases h
    simp only [Rp] at hb; subst hb
    exact .inl ⟨rfl, by rw [ha.isNon]; exact q⟩
  · cases h
    simp only [Rp] at hb; subst hb
    exact .inr ⟨_, rfl, by rw [ha.isBl]; exact q⟩
  · cases h
    simp only [Rp] at hb; subst hb
    exact .inr ⟨_, rfl, by rw [ha.isBl]; exact q⟩
  · cases h
end
section
variable {X : Cx} {M : Nm} {T : Tb} {Z : Zt} {lv : Nat} {σ : St} {F H : Hp} {μ : Nat → Addr} {S : Sto}
theorem Cok.un (C : Cok X M T Z lv) : X.A.units + 64 < cLine := C.room.units
/-- x op y -/
theorem opw_binW (C : Cok X M T Z lv) {op : BO} {x y : W} {v u : V} (st : StoOk (kx X Z) F H μ S) (hx : RpW (kx X Z) F μ S.length x v) (hy : RpW (kx X Z) F μ S.length y u) (hb : binW T op x y S ≠ .bad) (er : ErrE X (kx X Z) σ F H μ S (binW T op x y S)) :
    OpW X (binaryOp (bOp op)) σ v u H (PoO (kx X Z) F H μ S (binW T op x y S)) := by
  unfold binW at hb er ⊢
  split at hb
  · rename_i p ex
    obtain ⟨c, l⟩ := p
    simp only [ex] at er ⊢
    obtain ⟨⟨c', l'⟩, ey, hb⟩ := opt_ne hb
    obtain ⟨hcc, hb1⟩ := need_ne hb
    have hcc : c = c' := hcc
    subst hcc
    obtain ⟨f, hf, hb2⟩ := opt_ne hb1
    simp only [ey, hf, opt_some, need_T] at er ⊢
    exact opw_bin C st hx hy ex ey hf hb2 er
  · rename_i ex
    simp only [ex] at er ⊢
    split at hb
    · rename_i l hl
      simp only [hl] at er ⊢
      rcases Out.ne_cases hb with ⟨w, S1, ho⟩ | ⟨e, S1, ho⟩
      · rw [ho] at er ⊢
        exact .of (opBin op) (binL_ok st hx hy hl ho fun v H' q => q)
      · unfold binL at ho
        split at ho
        · obtain ⟨m, _, ho⟩ := opt_err ho
          obtain ⟨_, ho⟩ := need_err ho
          cases ho
        · obtain ⟨m, _, ho⟩ := opt_err ho
          obtain ⟨_, ho⟩ := need_err ho
          cases ho
        · cases ho
    · rename_i hl
      simp only [hl] at er ⊢
      split at hb
      · obtain ⟨d, hd, _⟩ := opt_ne hb
        rw [hd]
        exact .of (opBin op) (binD_ok st hx hy hd fun v H' q => q)
      · exact absurd rfl hb
theorem PoO.boolO {o : Out W} {v : V} {H' : Hp} {k : Kx} (hb : o.bind boolO ≠ .bad) (h : PoO k F H μ S o v H') : PoO k F H μ S (o.bind boolO) v H' ∧ ∃ b, v = .bl b := by
  cases o with
  | bad => exact h.elim
  | err e S1 => exact h.elim
  | ok w S1 =>
    have hw : ∃ b, w = .v (.bl b) := by
      cases w with
      | r n => exact absurd rfl hb
      | v d => cases d <;> first | exact ⟨_, rfl⟩ | exact absurd rfl hb
    obtain ⟨b, rfl⟩ := hw
    obtain ⟨F', μ', g, s0, rr⟩ := h
    exact ⟨⟨F', μ', g, s0, rr⟩, b, bl_at rr⟩
/-- the outcome of a comparison is a bool -/
def isB (o : Out W) : Prop := ∀ w S', o = .ok w S' → ∃ b, w = .v (.bl b)
theorem isB_okB {S : Sto} {b : Bool} : isB (okB S b) := fun w S' h => by
  obtain ⟨rfl, _⟩ := okB_ok h
  exact ⟨_, rfl⟩
theorem isB_opt {α : Type} {o : Option α} {f : α → Out W} (h : ∀ a, isB (f a)) : isB (opt o f) := fun w S' e => by
  obtain ⟨a, _, e⟩ := opt_ok e
  exact h a w S' e
theorem isB_need {c : Prop} [Decidable c] {o : Out W} (h : isB o) : isB (need c o) := fun w S' e => h w S' (need_ok e).2
theorem isB_bind {o : Out W} : isB (o.bind boolO) ∧ isB (o.bind notO) := by
  constructor <;> intro w S' h <;> obtain ⟨a, S1, _, h⟩ := Out.bind_ok' h <;> (cases a with
    | r n => cases h
    | v d => cases d <;> first | (cases h; done) | (obtain ⟨rfl, _⟩ := okB_ok h; exact ⟨_, rfl⟩))
theorem isB_cmpW {op : CO} {x y : W} : isB (cmpW T op x y S) := by
  unfold cmpW
  have plain : ∀ op : CO, isB (opt (look S x) fun a => opt (look S y) fun b => opt (cmpD op a b) (okB S)) := fun op => isB_opt fun _ => isB_opt fun _ => isB_opt fun _ => isB_okB
  cases op <;> dsimp only <;> first
    | exact plain _
    | (split
       · first
         | exact isB_opt fun _ => isB_need (isB_opt fun _ => isB_bind.1)
         | exact isB_opt fun _ => isB_bind.1
         | exact isB_opt fun _ => isB_bind.2
       · exact plain _)
/-- the plain comparisons -/
theorem opw_plain (C : Cok X M T Z lv) {op : CO} {x y : W} {v u : V} (st : StoOk (kx X Z) F H μ S) (hx : RpW (kx X Z) F μ S.length x v) (hy : RpW (kx X Z) F μ S.length y u) (hb : (opt (look S x) fun a => opt (look S y) fun b => opt (cmpD op a b) (okB S)) ≠ .bad) :
    OpW X (compareOp (cOp op)) σ v u H (PoO (kx X Z) F H μ S (opt (look S x) fun a => opt (look S y) fun b => opt (cmpD op a b) (okB S))) := by
  obtain ⟨a, ha, hb⟩ := opt_ne hb
  obtain ⟨b, hb', hb⟩ := opt_ne hb
  obtain ⟨z, hz, hb⟩ := opt_ne hb
  simp only [ha, hb', hz, opt_some]
  exact .of (opCmp (Z := Z) C.un op) (cmpD_ok (look_rp st hx ha) (look_rp st hy hb') hz (PoW.bl st))
theorem opw_cmpW (C : Cok X M T Z lv) {op : CO} {x y : W} {v u : V} (st : StoOk (kx X Z) F H μ S) (hx : RpW (kx X Z) F μ S.length x v) (hy : RpW (kx X Z) F μ S.length y u) (hb : cmpW T op x y S ≠ .bad) (er : ErrE X (kx X Z) σ F H μ S (cmpW T op x y S)) :
    OpW X (compareOp (cOp op)) σ v u H (PoO (kx X Z) F H μ S (cmpW T op x y S)) := by
  have rich : ∀ (op : CmpOp) (nm : Str), (op = .Eq ∨ op = .Lt) → nm = (cmpInfo op).2.1 → ∀ p, objOf S x = some p → ∀ o, o = (opt (objOf S y) fun q => need (p.1 = q.1) (opt (asc nm (T.ci p.1).mths) fun f => (callW T f [x, y] S).bind boolO)) → o ≠ .bad → ErrE X (kx X Z) σ F H μ S o → OpW X (compareOp op) σ v u H (PoO (kx X Z) F H μ S o) := by
    intro op nm hop hnm ⟨c, l⟩ ex o ho hb er
    subst ho
    obtain ⟨⟨c', l'⟩, ey, hb⟩ := opt_ne hb
    obtain ⟨hcc, hb1⟩ := need_ne hb
    have hcc : c = c' := hcc
    subst hcc
    obtain ⟨f, hf, hb⟩ := opt_ne hb1
    simp only [ey, hf, opt_some, need_T] at er ⊢
    have hne : callW T f [x, y] S ≠ .bad := fun q => hb (by rw [q]; rfl)
    rw [hnm] at hf
    exact (opw_rich C hop st hx hy ex ey hf hne (fun e S' q => er e S' (by rw [q]; rfl))).mono fun v H' q => (PoO.boolO hb q).1
  have cont : ∀ (neg : Bool) (k : W → Sto → Out W), k = (if neg then notO else boolO) → ∀ p, objOf S y = some p → ∀ o, o = (opt (asc "__contains__" (T.ci p.1).mths) fun f => (callW T f [y, x] S).bind k) → o ≠ .bad → ErrE X (kx X Z) σ F H μ S o → OpW X (compareOp (if neg then .NotIn else .In)) σ v u H (PoO (kx X Z) F H μ S o) := by
    intro neg k hk ⟨c, l⟩ ey o ho hb er
    subst ho
    obtain ⟨f, hf, hb⟩ := opt_ne hb
    simp only [hf, opt_some] at er ⊢
    exact opw_in C st hx hy ey hf hk hb er
  cases op with
  | eq =>
    unfold cmpW at hb er ⊢
    dsimp only at hb er ⊢
    split at hb
    · rename_i p ex
      simp only [ex] at er ⊢
      exact rich .Eq _ (.inl rfl) rfl p ex _ rfl hb er
    · rename_i ex
      simp only [ex] at er ⊢
      exact opw_plain C st hx hy hb
  | lt =>
    unfold cmpW at hb er ⊢
    dsimp only at hb er ⊢
    split at hb
    · rename_i p ex
      simp only [ex] at er ⊢
      exact rich .Lt _ (.inr rfl) rfl p ex _ rfl hb er
    · rename_i ex
      simp only [ex] at er ⊢
      exact opw_plain C st hx hy hb
  | isin =>
    unfold cmpW at hb er ⊢
    dsimp only at hb er ⊢
    split at hb
    · rename_i p ex
      simp only [ex] at er ⊢
      exact cont false _ rfl p ex _ rfl hb er
    · rename_i ex
      simp only [ex] at er ⊢
      exact opw_plain C st hx hy hb
  | notin =>
    unfold cmpW at hb er ⊢
    dsimp only at hb er ⊢
    split at hb
    · rename_i p ex
      simp only [ex] at er ⊢
      exact cont true _ rfl p ex _ rfl hb er
    · rename_i ex
      simp only [ex] at er ⊢
      exact opw_plain C st hx hy hb
  | ne => exact opw_plain C st hx hy hb
  | le => exact opw_plain C st hx hy hb
  | gt => exact opw_plain C st hx hy hb
  | ge => exact opw_plain C st hx hy hb
  | is => exact opw_plain C st hx hy hb
  | isnot => exact opw_plain C st hx hy hb
/-- a comparison's bool, as a test -/
theorem PoO.test {o : Out W} (hB : isB o) {v : V} {H' : Hp} {k : Kx} (h : PoO k F H μ S o v H') : ∃ b, v = .bl b ∧ PoT k F H μ S (o.bind truO) b H' := by
  cases o with
  | bad => exact h.elim
  | err e S1 => exact h.elim
  | ok w S1 =>
    obtain ⟨b, rfl⟩ := hB w S1 rfl
    obtain ⟨F', μ', g, s0, rr⟩ := h
    exact ⟨b, bl_at rr, rfl, F', μ', g, s0⟩
/-! ### truth -/
theorem truD_ok {k : Kx} {a : D} {z : Bool} {v : V} (h : truD a = some z) (ha : Rp k H a v) : TruV k.K v H z := by
  cases a with
  | non => cases h; simp only [Rp] at ha; subst ha; rfl
  | bl b => cases h; simp only [Rp] at ha; subst ha; rfl
  | int i => cases h; simp only [Rp] at ha; subst ha; rfl
  | str s =>
    have h : (if s.length ≤ sizeLine then some (s.length != 0) else none) = some z := h
    by_cases c : s.length ≤ sizeLine
    · rw [if_pos c] at h
      cases h
      simp only [Rp] at ha; subst ha
      refine ⟨c, ?_⟩
      show (s.length != 0) = ((s.length : Int) != 0)
      cases s.length <;> rfl
    · rw [if_neg c] at h
      cases h
  | lst l =>
    cases h
    simp only [Rp] at ha
    obtain ⟨a, vs, rfl, ha, hv⟩ := ha
    have hl := hv.len
    refine .inl ⟨vs, .of ha, ?_⟩
    cases l <;> cases vs <;> first | rfl | simp at hl
  | tup l =>
    cases h
    simp only [Rp] at ha
    obtain ⟨a, vs, rfl, ha, hv⟩ := ha
    have hl := hv.len
    refine .inr (.inl ⟨vs, ha, ?_⟩)
    cases l <;> cases vs <;> first | rfl | simp at hl
  | dct _ _ => cases h
  | ins _ _ => cases h
  | scr _ => cases h
theorem trw_truW (C : Cok X M T Z lv) {x : W} {v : V} (st : StoOk (kx X Z) F H μ S) (hx : RpW (kx X Z) F μ S.length x v) (hb : truW T x S ≠ .bad) (er : ErrE X (kx X Z) σ F H μ S (truW T x S)) : TrW X σ v H (PoT (kx X Z) F H μ S (truW T x S)) := by
  unfold truW at hb er ⊢
  split at hb
  · rename_i p ex
    obtain ⟨c, l⟩ := p
    simp only [ex] at er ⊢
    obtain ⟨f, hf, hb⟩ := opt_ne hb
    simp only [hf, opt_some] at er ⊢
    exact trw_own C st hx ex hf hb er
  · rename_i ex
    simp only [ex] at er ⊢
    obtain ⟨a, ha, hb⟩ := opt_ne hb
    obtain ⟨z, hz, hb⟩ := opt_ne hb
    simp only [ha, hz, opt_some]
    exact .of (truD_ok hz (look_rp st hx ha)) ⟨rfl, F, μ, .refl, st⟩
end
end NV

/-! a type is called: what its maker does at this program; list(range(..)) of large numbers -/
namespace PySem
open Sem (wp)
section
variable {prog : Program} {w : World} {A : Around} {E : Value → Shared → Prop} {s : Shared}
theorem NVcallType {T newId : String} {Bn : Builtin} {args : List Value} {Q : Value → Shared → Prop} (ft : TypeCalled T newId "object.__init__") (hne : (some newId != some "object.__new__") = true)
    (hct : checkTypeCall T ⟨args, []⟩ = pure ()) (hcn : checkBuiltinCall newId ⟨.type T :: args, []⟩ = pure ()) (hok : ∀ obj, argsOk "object.__init__" ⟨obj :: args, []⟩)
    (entryN : entryFor table newId = some Bn)
    (h : wpAny (model prog w) A.in1.in1 (Bn ⟨.type T :: args, []⟩) (fun fin s' => match fin with | .done f => wants (fun obj s₁ => s₁.TypeIs obj T ∧ Q obj s₁) E (.ok f) s' | .again c' => c'.quiet = true ∧ codeAny (model prog w) A.in1 c' (wants (fun obj s₁ => s₁.TypeIs obj T ∧ Q obj s₁) E) s') (fun e s' => wants (fun obj s₁ => s₁.TypeIs obj T ∧ Q obj s₁) E (.error e) s') s) :
    wpAny (model prog w) A (call (.type T) args) Q E s := by
  obtain ⟨c, tl, hmro⟩ := ft.mro
  have hmade := ft.made
  have hsub := ft.sub
  refine wpAny_call (codeAny_of_tree ?_)
  show wpAny _ _ (callAny (.type T) _) _ _ _
  refine wpAny_pure ⟨Code.quiet_builtin _ (by decide +kernel), codeAny_builtin F.entry_type_call ?_⟩
  rw [Around.under_plain (weight_type_call_type T args []) (units_type_call_type T args [])]
  have h1 := ft.notType
  have h2 := ft.canCreate
  repeat (any_goals (first | assumption | wp_step))
  refine codeAny_mono (codeAny_call_builtin ft.plain entryN (wpAny_of_eq hcn h)) fun r s₁ hr => ?_
  cases r with
  | error e => exact hr
  | ok fl =>
    cases fl with
    | ret obj =>
      have hT : s₁.TypeIs obj T := hr.1
      have hli := ft.init.lookup
      have hbi := ft.init.bind obj
      repeat (any_goals (first | assumption | wp_step))
      refine codeAny_mono (codeAny_call_builtin ft.init.plain F.entry_object_init (ft.init.check _ _ _ _ _ _ _ _ hT (hok obj) (object_init_meets ft.init.lookup ft.made hne prog w A.in1 (wants (fun r s₂ => r = .none ∧ Q obj s₂) E) s₁ ⟨hT, rfl, hr.2⟩))) fun r₂ s₂ hr₂ => ?_
      cases r₂ with
      | error e => exact hr₂
      | ok fl₂ =>
        cases fl₂ with
        | ret r =>
          obtain ⟨rfl, hq⟩ := hr₂
          repeat (any_goals (first | assumption | wp_step))
        | _ => exact hr₂.elim
    | _ => exact hr.elim
theorem NVcall_bool {x : Value} {Q : Value → Shared → Prop} (h : wpAny (model prog w) A.in1.in1 (truthy x) (fun b s' => Q (.bool b) s') E s) : wpAny (model prog w) A (call (.type "bool") [x]) Q E s := by
  refine NVcallType F.called_bool F.newNe_bool (F.typeCall_bool_1 x) (F.newCall_bool_1 x) (fun obj => F.args_object_init_2 obj x) F.entry_bool_new ?_
  obtain ⟨hp, g, d, tk, os⟩ := s
  have f1 := F.conv_sub_bool
  have h' := wpAny_mono (Q' := fun b s' => wants (fun obj s₁ => s₁.TypeIs obj "bool" ∧ Q obj s₁) E (.ok (.ret (.bool b))) s') h (fun b s' q => ⟨rfl, q⟩) fun _ _ z => z
  repeat (any_goals (first | assumption | (with_reducible refine wpAny_bind (wpAny_mono h (fun b s' q => ?_) fun _ _ z => z)) | wp_step))
  all_goals first | exact ⟨_, rfl, rfl, q⟩ | exact ⟨rfl, q⟩ | skip
end
end PySem
namespace PySem
open Sem (wp)
open AutoSeq1 (wpAny_loadPart')
section
variable {prog : Program} {w : World} {A : Around} {E : Value → Shared → Prop} {s : Shared}
theorem NVext_long {R : Result → Shared → Prop} {r : Addr} {a b c : Int} {t u v : Tok} {n : Nat} (hh : A.handled = none) (hr : IsRange s.heap r a b c t u v) (hbig : Builtin.Range.small a b c = false)
    (hn : Builtin.Range.rangeSize a b c = n) (hlen : n ≤ 2 ^ 24) (S : Addr) (res : Value) (c₀ : Nat) (hS : s.heap.get? S = some { cls := .type "list", data := .seq #[] c₀ })
    (hR : ∀ h' tk acc' c', (∀ b o, b ≠ S → s.heap.get? b = some o → h'.get? b = some o) → h'.get? S = some { cls := .type "list", dict := none, data := .seq acc' c', slots := #[] } →
      ItemsOf (fun i v => ∃ t, v = .int (a + i * c) t) acc' n → R (.ok (.ret res)) { s with heap := h', toks := tk }) :
    wpAny (model prog w) A.in1 (Builtin.List.listExtendWith (.ref S) (.ref r) res)
      (fun fin s' => match fin with | .done f => R (.ok f) s' | .again c' => c'.quiet = true ∧ codeAny (model prog w) A c' R s') (fun e s' => R (.error e) s') s := by
  have hSr : S ≠ r := fun e => by rw [e, hr] at hS; simp at hS
  have hSlt : S < s.heap.objs.size := Heap.lt_size hS
  have hSI : S ≠ s.heap.objs.size := Nat.ne_of_lt hSlt
  have hSf : S ∉ [s.heap.objs.size] := fun hm => hSI (List.mem_singleton.mp hm)
  have W := (Walks.longrange (prog := prog) (w := w) (A := A.in1) hh s.heap.objs.size a c n).toS

  have key : ∀ (h : Heap) (c₁ tk : Nat), IsLongIter h s.heap.objs.size (a + ((0 : Nat) : Int) * c) ((n : Int) - ((0 : Nat) : Int)) c → (∀ b o, b ≠ S → s.heap.get? b = some o → h.get? b = some o) →
      h.get? S = some { cls := .type "list", data := .seq #[] c₁ } → codeAny (model prog w) A (.builtin "list.extend.loop" ⟨[.ref S, .ref s.heap.objs.size, res], []⟩) R { s with heap := h, toks := tk } := by
    intro h c₁ tk hit hk hS₁
    refine codeAny_extend_loopS W (by rw [sizeLine_eq]; omega) S hSf res n 0 _ #[] c₁ rfl (Nat.zero_le _) hit hS₁ (ItemsOf.nil _) fun s' acc' c' hm hS' hacc => ?_
    rw [Moved.eq_with hm]
    refine hR s'.heap s'.toks acc' c' (fun b o hb e => hm.heap b o (fun hmem => ?_) (hk b o hb e)) hS' hacc
    rcases List.mem_cons.mp hmem with e' | hmem
    · exact hb e'
    · exact absurd (Heap.lt_size e) (by rw [List.mem_singleton.mp hmem]; exact Nat.lt_irrefl _)
  unfold Builtin.List.listExtendWith
  refine wpAny_bind (wpAny_typeOf (T := "range") ⟨_, hr, rfl⟩ ?_)
  have h1 : Builtin.List.listSameRef (.ref S) (.ref r) = false := by simp [Builtin.List.listSameRef, hSr]
  have h2 : (Value.type "range" == Value.type "list") = false := by decide
  have h3 : (Value.type "range" == Value.type "tuple") = false := by decide
  simp only [h1, h2, h3, Bool.or_false, Bool.false_eq_true, if_false]
  refine wpAny_bind (wpAny_pyIter_longrange hr hbig ?_)
  refine wpAny_bind (wpAny_holding (wpAny_hint_range (n := n) (Heap.get?_push_of_some _ hr) hn hlen ?_))
  have hit₁ : IsLongIter (s.heap.push { cls := .type "longrange_iterator", data := .fields #[rawInt a, rawInt (Builtin.Range.rangeSize a b c), rawInt c] }) s.heap.objs.size (a + ((0 : Nat) : Int) * c) ((n : Int) - ((0 : Nat) : Int)) c := by
    show IsLongIter _ _ _ _ _; rw [hn]; simpa using Heap.get?_push_size _ rfl
  have hS₁ := Heap.get?_push_of_some { cls := .type "longrange_iterator", data := .fields #[rawInt a, rawInt (Builtin.Range.rangeSize a b c), rawInt c] } hS
  refine wpAny_ite_split (fun _ => ?_) (fun _ => wpAny_pure ⟨plainId_quiet F.plain_extend_loop _, key _ c₀ _ hit₁ (fun b o _ e => Heap.get?_push_of_some _ e) hS₁⟩)
  refine wpAny_bind (wpAny_rule ?_)
  refine wpAny_bind ?_
  show wpAny _ _ (updateSeq S (·.push .none) >>= fun _ => updateSeq S (·.pop)) _ _ _
  refine wpAny_bind (wpAny_updateSeq hS₁ rfl ?_)
  have hS₂ := Heap.get?_update_self (Obj.mapSeq (·.push Value.none)) hS₁ rfl
  refine wpAny_updateSeq (hz := by seq_fits) hS₂ rfl ?_
  have hS₃ := Heap.get?_update_self (Obj.mapSeq (·.pop)) hS₂ rfl
  refine wpAny_pure ⟨plainId_quiet F.plain_extend_loop _, key _ _ _ ?_ (fun b o hb e => ?_) hS₃⟩
  · exact (Heap.get?_update_other _ _ hSI).trans ((Heap.get?_update_other _ _ hSI).trans hit₁)
  · exact (Heap.get?_update_other _ _ (Ne.symm hb)).trans ((Heap.get?_update_other _ _ (Ne.symm hb)).trans (Heap.get?_push_of_some _ e))

theorem NVinit_long {R : Result → Shared → Prop} {r : Addr} {a b c : Int} {t u v : Tok} {n : Nat} (hh : A.handled = none) (hr : IsRange s.heap r a b c t u v) (hbig : Builtin.Range.small a b c = false)
    (hn : Builtin.Range.rangeSize a b c = n) (hlen : n ≤ 2 ^ 24) (S : Addr) (hS : s.heap.get? S = some { cls := .type "list", data := .seq #[] })
    (hR : ∀ h' tk acc' c', (∀ b o, b ≠ S → s.heap.get? b = some o → h'.get? b = some o) → h'.get? S = some { cls := .type "list", dict := none, data := .seq acc' c', slots := #[] } →
      ItemsOf (fun i v => ∃ t, v = .int (a + i * c) t) acc' n → R (.ok (.ret .none)) { s with heap := h', toks := tk }) :
    wpAny (model prog w) A.in1 (Builtin.«list.__init__» ⟨[.ref S, .ref r], []⟩)
      (fun fin s' => match fin with | .done f => R (.ok f) s' | .again c' => c'.quiet = true ∧ codeAny (model prog w) A c' R s') (fun e s' => R (.error e) s') s := by
  have hSr : S ≠ r := fun e => by rw [e, hr] at hS; simp at hS
  show wpAny _ _ (do let old ← Builtin.List.listItems (.ref S); Builtin.List.listUpdate (.ref S) (fun _ => #[]); letGo old.toList.reverse; Builtin.List.listExtendWith (.ref S) (.ref r) .none) _ _ s
  refine wpAny_bind ?_
  unfold Builtin.List.listItems
  refine wpAny_bind (wpAny_seqItems hS rfl (wpAny_pure ?_))
  show wpAny _ _ (updateSeq S (fun _ => #[]) >>= fun _ => letGo (#[] : Array Value).toList.reverse >>= fun _ => Builtin.List.listExtendWith (.ref S) (.ref r) .none) _ _ s
  refine wpAny_bind (wpAny_updateSeq hS rfl ?_)
  have hS₂ := Heap.get?_update_self (Obj.mapSeq (fun _ => (#[] : Array Value))) hS rfl
  have oth : ∀ b o, b ≠ S → s.heap.get? b = some o → (s.heap.update S (Obj.mapSeq (fun _ => (#[] : Array Value)))).get? b = some o :=
    fun b o hb e => (Heap.get?_update_other _ _ (Ne.symm hb)).trans e
  refine wpAny_bind (wpAny_letGo ?_)
  refine NVext_long hh (oth r _ (Ne.symm hSr) hr) hbig hn hlen S .none _ hS₂ fun h' tk acc' c' hk hS' hacc => ?_
  exact hR h' tk acc' c' (fun b o hb e => hk b o hb (oth b o hb e)) hS' hacc
theorem NVcall_list_long {Q : Value → Shared → Prop} {r : Addr} {a b c : Int} {t u v : Tok} {n : Nat} (hh : A.handled = none) (hr : IsRange s.heap r a b c t u v) (hbig : Builtin.Range.small a b c = false)
    (hn : Builtin.Range.rangeSize a b c = n) (hlen : n ≤ 2 ^ 24)
    (hQ : ∀ h' tk acc' c', (∀ b o, s.heap.get? b = some o → h'.get? b = some o) →
      h'.get? s.heap.objs.size = some { cls := .type "list", dict := none, data := .seq acc' c', slots := #[] } → ItemsOf (fun i v => ∃ t, v = .int (a + i * c) t) acc' n → Q (.ref s.heap.objs.size) { s with heap := h', toks := tk }) :
    wpAny (model prog w) A (call (.type "list") [.ref r]) Q E s := by
  refine callType_codes (Q₁ := fun obj s₁ => obj = .ref s.heap.objs.size ∧ s₁ = { s with heap := s.heap.push { cls := .type "list", data := .seq #[] } }) F.called_list (F.typeCall_list_1 _) F.entry_list_init
    (code_list_new _ ⟨rfl, rfl⟩) fun obj s₁ h₁ => ?_
  obtain ⟨rfl, rfl⟩ := h₁
  have hS : (s.heap.push { cls := .type "list", data := .seq #[] }).get? s.heap.objs.size = some { cls := .type "list", data := .seq #[] } := Heap.get?_push_size _ rfl
  refine ⟨⟨_, hS, rfl⟩, F.args_list_init_2 _ _, NVinit_long (A := A.in1) hh (Heap.get?_push_of_some _ hr) hbig hn hlen _ hS fun h' tk acc' c' hk hS' hacc => ?_⟩
  exact ⟨rfl, hQ h' tk acc' c' (fun b o e => hk b o (Nat.ne_of_lt (Heap.lt_size e)) (Heap.get?_push_of_some _ e)) hS' hacc⟩
end
end PySem
namespace NV
open PySem L2
open PyProof.Rows hiding St
section
variable {X : Cx} {e : Expr} {te : L2.St → Hp → (Int → Int → Hp → Prop) → Prop}
def tLstRgA (te : L2.St → Hp → (Int → Int → Hp → Prop) → Prop) : TE := fun σ H Q => te σ H fun a b H1 => (b - a).toNat ≤ 2 ^ 24 ∧ ∀ q, H1 q = none → Q (.ref q) (upd H1 q (.lst (rgV a b)))
theorem pe_listRgA {p pos : Pos} (hc : X.calm = true) (hg : Gl X "list") (hm : X.mg "list" = none) (he : PRg X e te) (na : starEach [e] X.env = (false, eval e X.env) :: starEach [] X.env := by rfl) : PE X (.Call (.Name "list" p) [e] [] pos) (tLstRgA te) := by
  refine ⟨fun pins s σ H Q I h => ?_⟩
  refine Call_ (ld_blt I hg hm boot_list (PyProof.Rows.callWith_type1 (args_cons (thn (he pins s σ H _ I h) fun x s1 ⟨r, a, b, t, u, v, H1, ex, hr, I1, b5, q⟩ => args_nil ?_) na) na))
  subst ex
  have fin : ∀ (h' : Heap) (tk : Nat) (acc : Array Value) (c' : Nat), (∀ b o, s1.heap.get? b = some o → h'.get? b = some o) → h'.get? s1.heap.objs.size = some { cls := .type "list", dict := none, data := .seq acc c', slots := #[] } → ItemsOf (fun i v => ∃ t, v = .int (a + i * 1) t) acc (b - a).toNat → EP X pins σ Q (.ref s1.heap.objs.size) { s1 with heap := h', toks := tk } := fun h' tk acc c' hk e' hi => by
    refine ⟨.ref s1.heap.objs.size, upd H1 s1.heap.objs.size (.lst (rgV a b)), I1.laid hk (Nat.le_refl _) (show ObjOk X.prog X.w _ _ _ (.lst (rgV a b)) from ⟨?_, acc.toList, c', vals_rg hi, ?_⟩), rfl, q _ (I1.hok.fresh (Nat.le_refl _))⟩
    · rw [rgV_length, sizeLine_eq]; omega
    · rw [Array.toArray_toList]; exact e'
  by_cases hs : Builtin.Range.small a b 1 = true
  · exact call_list_range (n := (b - a).toNat) (I1.ok.hd hc) hr hs (rangeSize_nat a b) b5 fin
  · exact NVcall_list_long (n := (b - a).toNat) (I1.ok.hd hc) hr (by simpa using hs) (rangeSize_nat a b) b5 fin
end
end NV

namespace NV
open PySem L2

/-! ### what is made is settled -/
section
open Classical
/-- the cells from b on are settled -/
noncomputable def Ff (F H : Hp) (μ : Nat → Addr) (S : Sto) (b : Nat) : Hp := fun a => if ∃ n c, b ≤ n ∧ S[n]? = some c ∧ c ≠ .dead ∧ μ n = a then H a else F a
/-- lists, dicts, instances are lent -/
def isT : Cell → Bool
  | .dead => true
  | .tup _ => true
  | _ => false
noncomputable def Fl (F H : Hp) (μ : Nat → Addr) (S : Sto) : Hp := fun a => if ∃ n c, S[n]? = some c ∧ isT c = false ∧ μ n = a then H a else F a
end
section
variable {k : Kx} {F H : Hp} {μ : Nat → Addr} {S : Sto} {b : Nat}
theorem Ff_new {n : Nat} {c : Cell} (hb : b ≤ n) (h : S[n]? = some c) (d : c ≠ .dead) : Ff F H μ S b (μ n) = H (μ n) := if_pos ⟨n, c, hb, h, d, rfl⟩
theorem Ff_sub (st : StoOk k F H μ S) : Same F (Ff F H μ S b) := fun a o h => by
  unfold Ff
  split
  · exact st.sub _ _ h
  · exact h
theorem Ff_in (st : StoOk k F H μ S) : Same (Ff F H μ S b) H := fun a o h => by
  unfold Ff at h
  split at h
  · exact h
  · exact st.sub _ _ h
mutual
theorem rdf_rp (st : StoOk k F H μ S) : ∀ (n : Nat) {w : W} {v : V} {d : D}, RpW k F μ S.length w v → rdf b S n w = some d → Rp k (Ff F H μ S b) d v
  | n, .v d, v, e, h, q => by
    have : some d = some e := by cases n <;> (unfold rdf at q; exact q)
    cases this
    exact Rp.mono (Ff_sub st) _ h
  | 0, .r m, v, e, h, q => by unfold rdf at q; cases q
  | n + 1, .r m, v, e, h, q => by
    unfold rdf at q
    obtain ⟨rfl, hm⟩ := h
    split at q
    · cases q
    · rename_i hb
      have hb : b ≤ m := by omega
      split at q
      · rename_i l hl
        obtain ⟨ds, q1, rfl⟩ := Option.map_eq_some_iff.mp q
        obtain ⟨vs, h1, h2, h3⟩ := st.cell _ _ hl
        unfold Rp
        exact ⟨_, vs, rfl, by rw [Ff_new hb hl (by simp)]; exact h1, rdfs_rp st n h3 q1⟩
      · rename_i l hl
        obtain ⟨ds, q1, rfl⟩ := Option.map_eq_some_iff.mp q
        obtain ⟨vs, h1, h2, h3⟩ := st.cell _ _ hl
        unfold Rp
        exact ⟨_, vs, rfl, .of (by rw [Ff_new hb hl (by simp)]; exact h1), rdfs_rp st n h3 q1⟩
      · rename_i ks l hl
        obtain ⟨ds, q1, rfl⟩ := Option.map_eq_some_iff.mp q
        obtain ⟨vs, h1, h2, h3⟩ := st.cell _ _ hl
        unfold Rp
        exact ⟨_, vs, rfl, rdfs_rp st n h2 q1, by rw [Ff_new hb hl (by simp)]; exact h3⟩
      · rename_i c l hl
        obtain ⟨ds, q1, rfl⟩ := Option.map_eq_some_iff.mp q
        obtain ⟨dx, fs, vs, h1, h2, h3, h4⟩ := st.cell _ _ hl
        unfold Rp
        exact ⟨_, dx, fs, vs, rfl, by rw [Ff_new hb hl (by simp)]; exact h1, h3, rdfs_rp st n h4 q1⟩
      · cases q
theorem rdfs_rp (st : StoOk k F H μ S) : ∀ (n : Nat) {ws : List W} {vs : List V} {ds : List D}, RpWs k F μ S.length ws vs → rdfs b S n ws = some ds → Rps k (Ff F H μ S b) ds vs
  | n, [], vs, ds, h, q => by
    have : some [] = some ds := by cases n <;> (unfold rdfs at q; exact q)
    cases this
    rw [show vs = [] from h]
    exact Rps.nil'
  | n, w :: ws, vs, ds, h, q => by
    obtain ⟨v, r, rfl, h2, h3⟩ := h
    unfold rdfs at q
    split at q
    · rename_i d hd
      obtain ⟨ds', q1, rfl⟩ := Option.map_eq_some_iff.mp q
      exact Rps.cons' (rdf_rp st n h2 hd) (rdfs_rp st n h3 q1)
    · cases q
end
theorem frz_ok {S' S1 : Sto} {w w' : W} {v : V} {H' : Hp} (h : PoW k F H μ S w S' v H') (e : frzW S.length w S' = .ok w' S1) : PoW k F H μ S w' S1 v H' := by
  obtain ⟨F', μ', g, st, r⟩ := h
  unfold frzW at e
  split at e
  · cases e
    exact ⟨F', μ', g, st, r⟩
  · obtain ⟨d, hd, e⟩ := opt_ok e
    obtain ⟨S0, hc, e⟩ := opt_ok e
    cases e
    have g0 := g.cut rfl hc
    have s0 := st.cut hc
    obtain ⟨h1, _, h2, h3⟩ := cut_some hc
    have np : ∀ (m : Nat) (c : Cell), S1[m]? = some c → c ≠ .dead → Ff F' H' μ' S' S.length (μ' m) = none := fun m c hm d' => by
      obtain ⟨q1, _, q3⟩ := h3 m c hm
      unfold Ff
      rw [if_neg]
      · exact (st.cell m c q1).fnone d'
      · rintro ⟨n, c', hn, hc', dc', e⟩
        have := st.inj n m c' c hc' q1 dc' d' e
        omega
    refine ⟨Ff F' H' μ' S' S.length, μ', ⟨g0.dom, g0.h, g0.f.trans (Ff_sub st), fun a o q => ?_, g0.len, g0.mu, g0.dd, g0.fresh⟩, ⟨Ff_in st, fun m c hm => ?_, s0.inj⟩, rdf_rp st 4 r hd⟩
    · unfold Ff at q
      split at q
      · rename_i hx
        obtain ⟨n, c, hn, hc', dc, rfl⟩ := hx
        exact .inr (.inl (g.fresh n c hn hc' dc))
      · exact g.new a o q
    · exact (s0.cell m c hm).mono (fun _ => rfl) (Ff_sub st) (np m c hm) (fun _ _ => rfl) (Nat.le_refl _)
/-! ### what is lent -/
theorem Fl_new {n : Nat} {c : Cell} (h : S[n]? = some c) (d : isT c = false) : Fl F H μ S (μ n) = H (μ n) := if_pos ⟨n, c, h, d, rfl⟩
theorem Fl_sub (st : StoOk k F H μ S) : Same F (Fl F H μ S) := fun a o h => by
  unfold Fl
  split
  · exact st.sub _ _ h
  · exact h
theorem Fl_in (st : StoOk k F H μ S) : Same (Fl F H μ S) H := fun a o h => by
  unfold Fl at h
  split at h
  · exact h
  · exact st.sub _ _ h
mutual
theorem lend_rp (st : StoOk k F H μ S) : ∀ (n : Nat) {w : W} {v : V} {d : D}, RpW k F μ S.length w v → lend S n w = some d → Rp k (Fl F H μ S) d v
  | n, .v d, v, e, h, q => by
    have : some d = some e := by cases n <;> (unfold lend at q; exact q)
    cases this
    exact Rp.mono (Fl_sub st) _ h
  | 0, .r m, v, e, h, q => by unfold lend at q; cases q
  | n + 1, .r m, v, e, h, q => by
    unfold lend at q
    obtain ⟨rfl, hm⟩ := h
    split at q
    · rename_i l hl
      obtain ⟨ds, q1, rfl⟩ := Option.map_eq_some_iff.mp q
      obtain ⟨vs, h1, h2, h3⟩ := st.cell _ _ hl
      unfold Rp
      exact ⟨_, vs, rfl, by rw [Fl_new hl rfl]; exact h1, lends_rp st n h3 q1⟩
    · rename_i ks l hl
      obtain ⟨ds, q1, rfl⟩ := Option.map_eq_some_iff.mp q
      obtain ⟨vs, h1, h2, h3⟩ := st.cell _ _ hl
      unfold Rp
      exact ⟨_, vs, rfl, lends_rp st n h2 q1, by rw [Fl_new hl rfl]; exact h3⟩
    · rename_i c l hl
      obtain ⟨ds, q1, rfl⟩ := Option.map_eq_some_iff.mp q
      obtain ⟨dx, fs, vs, h1, h2, h3, h4⟩ := st.cell _ _ hl
      unfold Rp
      exact ⟨_, dx, fs, vs, rfl, by rw [Fl_new hl rfl]; exact h1, h3, lends_rp st n h4 q1⟩
    · cases q
theorem lends_rp (st : StoOk k F H μ S) : ∀ (n : Nat) {ws : List W} {vs : List V} {ds : List D}, RpWs k F μ S.length ws vs → lends S n ws = some ds → Rps k (Fl F H μ S) ds vs
  | n, [], vs, ds, h, q => by
    have : some [] = some ds := by cases n <;> (unfold lends at q; exact q)
    cases this
    rw [show vs = [] from h]
    exact Rps.nil'
  | n, w :: ws, vs, ds, h, q => by
    obtain ⟨v, r, rfl, h2, h3⟩ := h
    unfold lends at q
    split at q
    · rename_i d hd
      obtain ⟨ds', q1, rfl⟩ := Option.map_eq_some_iff.mp q
      exact Rps.cons' (lend_rp st n h2 hd) (lends_rp st n h3 q1)
    · cases q
end
open Classical in
/-- what was settled in between stays, but for what was lent -/
noncomputable def Fb (F' : Hp) (μ : Nat → Addr) (S : Sto) : Hp := fun a => if ∃ n c, S[n]? = some c ∧ isT c = false ∧ μ n = a then none else F' a
theorem live_kind {a : Addr} {N : Nat} {c : Cell} (h : CellOk k F H μ N a c) (d : isT c = false) {vs : List V} : H a ≠ some (.tup vs) ∧ ∀ o, H a ≠ some (.frz o (.tup vs)) := by
  cases c with
  | dead => cases d
  | tup l => cases d
  | lst l =>
    obtain ⟨us, h, _⟩ := h
    rw [h]
    exact ⟨by simp, by simp⟩
  | dct ks l =>
    obtain ⟨us, _, _, ⟨kk, _, h, _⟩ | ⟨kk, _, h, _⟩⟩ := h <;> rw [h] <;> exact ⟨by simp, by simp⟩
  | ins c l =>
    obtain ⟨dx, fs, us, h, _⟩ := h
    rw [h]
    exact ⟨by simp, by simp⟩
variable {F' H' : Hp} {μ' : Nat → Addr} {S' : Sto}
theorem lent_sq (st : StoOk k F H μ S) (g : Gr (Fl F H μ S) H μ [] F' H' μ' S') (fh : Same F' H') {a : Addr} {vs : List V} (h : SqT k.K F' a vs) : SqT k.K (Fb F' μ S) a vs := by
  have key : ∀ o, F' a = some o → (o = .tup vs ∨ ∃ ob, o = .frz ob (.tup vs)) → Fb F' μ S a = some o := fun o h ho => by
    unfold Fb
    rw [if_neg]
    · exact h
    · rintro ⟨n, c, hc, hd, rfl⟩
      obtain ⟨h1, h2⟩ := live_kind (st.cell n c hc) hd (vs := vs)
      obtain ⟨o', hs⟩ := (st.cell n c hc).some (fun z => by subst z; cases hd)
      have e := g.pure_same _ _ hs
      rw [fh _ _ h] at e
      cases e
      rcases ho with rfl | ⟨ob, rfl⟩
      · exact h1 hs
      · exact h2 ob hs
  rcases h with (h | ⟨o, h⟩) | h
  · exact .inl (.inl (key _ h (.inl rfl)))
  · exact .inl (.inr ⟨o, key _ h (.inr ⟨o, rfl⟩)⟩)
  · exact .inr h
mutual
theorem lent_rp (st : StoOk k F H μ S) (g : Gr (Fl F H μ S) H μ [] F' H' μ' S') (fh : Same F' H') : ∀ (d : D) {v : V}, tupD d = true → Rp k F' d v → Rp k (Fb F' μ S) d v
  | .non, v, t, h => h
  | .bl _, v, t, h => h
  | .int _, v, t, h => h
  | .str _, v, t, h => h
  | .tup l, v, t, h => by
    unfold Rp at h ⊢
    obtain ⟨a, vs, h1, h2, h3⟩ := h
    exact ⟨a, vs, h1, lent_sq st g fh h2, lent_rps st g fh l (by simpa [tupD] using t) h3⟩
  | .lst _, v, t, h => by simp [tupD] at t
  | .dct _ _, v, t, h => by simp [tupD] at t
  | .ins _ _, v, t, h => by simp [tupD] at t
  | .scr _, v, t, h => by simp [tupD] at t
theorem lent_rps (st : StoOk k F H μ S) (g : Gr (Fl F H μ S) H μ [] F' H' μ' S') (fh : Same F' H') : ∀ (l : List D) {vs : List V}, tupDs l = true → Rps k F' l vs → Rps k (Fb F' μ S) l vs
  | [], vs, t, h => h
  | d :: l, vs, t, h => by
    obtain ⟨v, r, rfl, h2, h3⟩ := h.uncons
    simp only [tupDs, Bool.and_eq_true] at t
    exact Rps.cons' (lent_rp st g fh d t.1 h2) (lent_rps st g fh l t.2 h3)
end
theorem lent_gr (st : StoOk k F H μ S) (g : Gr (Fl F H μ S) H μ [] F' H' μ' S') (fh : Same F' H') : Gr F H μ S (Fb F' μ S) H' μ S ∧ StoOk k (Fb F' μ S) H' μ S := by
  have e := g.pure_same
  have nl : ∀ a o, F a = some o → ¬ ∃ n c, S[n]? = some c ∧ isT c = false ∧ μ n = a := fun a o h => by
    rintro ⟨n, c, hc, hd, rfl⟩
    rw [(st.cell n c hc).fnone (fun z => by subst z; cases hd)] at h
    cases h
  have sF : Same F (Fb F' μ S) := fun a o h => by
    unfold Fb
    rw [if_neg (nl a o h)]
    exact g.f _ _ (Fl_sub st _ _ h)
  have fl : ∀ a, (¬ ∃ n c, S[n]? = some c ∧ isT c = false ∧ μ n = a) → Fl F H μ S a = F a := fun a h => if_neg h
  have new : ∀ a o, Fb F' μ S a = some o → F a = some o ∨ H a = none := fun a o h => by
    unfold Fb at h
    split at h
    · cases h
    · rename_i hn
      rcases g.new a o h with q | q | q
      · rw [fl a hn] at q; exact .inl q
      · exact .inr q
      · obtain ⟨m, hm, _⟩ := q.lt
        simp at hm
  refine ⟨⟨g.dom, fun a o h _ => e a o h, sF, fun a o h => ?_, Nat.le_refl _, fun _ _ => rfl, fun _ h => h, fun n c hn h => ?_⟩, ⟨fun a o h => ?_, fun n c h => ?_, st.inj⟩⟩
  · rcases new a o h with q | q
    · exact .inl q
    · exact .inr (.inl q)
  · rw [List.getElem?_eq_none_iff.mpr hn] at h; cases h
  · unfold Fb at h
    split at h
    · cases h
    · exact fh _ _ h
  · refine (st.cell n c h).mono (fun d => ?_) sF (fun d => ?_) (fun _ _ => rfl) (Nat.le_refl _)
    · obtain ⟨o, ho⟩ := (st.cell n c h).some d
      rw [ho, e _ _ ho]
    · cases q : Fb F' μ S (μ n) with
      | none => rfl
      | some o =>
        obtain ⟨o', ho'⟩ := (st.cell n c h).some d
        rcases new _ _ q with z | z
        · rw [(st.cell n c h).fnone d] at z; cases z
        · rw [z] at ho'; cases ho'
end
end NV

namespace NV
open PySem L2
open PyProof.Rows hiding St

section
variable {X : Cx} {M : Nm} {T : Tb} {Z : Zt} {lv : Nat} {σ : St} {F H : Hp} {μ : Nat → Addr} {S : Sto} {Γ : Env'} {a b : Expr}
/-! ### names, constants -/
theorem snd_var (C : Cok X M T Z lv) {i : Nat} {x : Str} {pos : Pos} (h : (visB X.env.scope x && decide (M.N[i]? = some x) && nmB x) = true) : SndE X (kx X Z) Γ S (.Name x pos) (varW Γ i S) := by
  simp only [Bool.and_eq_true, decide_eq_true_eq] at h
  obtain ⟨⟨hv, hi⟩, hn⟩ := h
  have hn := nmB_d hn
  intro hb σ F H μ rel st er
  unfold varW at hb ⊢
  cases hw : Γ[i]? with
  | none => rw [hw] at hb; exact absurd rfl hb
  | some o =>
    cases o with
    | none => rw [hw] at hb; exact absurd rfl hb
    | some w =>
      obtain ⟨v, h1, h2⟩ := rel.at_ i w hw
      exact .of (pe_var (by rw [C.hN]; exact hi) (visB_vis hv) hn.1 hn.2) ⟨v, h1, .w st h2⟩
theorem snd_glo (C : Cok X M T Z lv) {j : Nat} {x : Str} {pos : Pos} (h : (glB X.env.scope x && decide (M.cs j = some x) && nmB x) = true) : SndE X (kx X Z) Γ S (.Name x pos) (opt (T.cs j) (okD S)) := by
  simp only [Bool.and_eq_true, decide_eq_true_eq] at h
  obtain ⟨⟨hg, hj⟩, hn⟩ := h
  intro hb σ F H μ rel st er
  obtain ⟨d, v, u, hd, hm, rv, hr⟩ := C.glo j x hj
  rw [hd]
  exact .of (pe_glob (glB_gl hg) hm rv (nmB_d hn).1) (PoW.v st (hr F))
/-! ### operators -/
theorem snd_bin (C : Cok X M T Z lv) {op : BO} {oa : Out W} {fb : Sto → Out W} {pos : Pos} (sa : SndE X (kx X Z) Γ S a oa) (sb : ∀ S1, SndE X (kx X Z) Γ S1 b (fb S1)) : SndE X (kx X Z) Γ S (.BinOp a (bOp op) b pos) (oa.bind (two fb (binW T op))) := by
  intro hb σ F H μ rel st er
  refine we_bin (sa.th hb rel st er fun x S1 e1 F1 H1 μ1 v g1 s1 r1 hb1 er1 => ?_)
  refine (sb S1).th hb1 (rel.gr g1) s1 er1 fun y S2 e2 F2 H2 μ2 u g2 s2 r2 hb2 er2 => ?_
  exact (opw_binW C s2 (r1.gr g2) r2 hb2 er2).mono fun v H' q => by
    simp only [e1, e2, Out.bind_ok, two]
    exact (q.back g2).back g1
theorem snd_cmp (C : Cok X M T Z lv) {op : CO} {oa : Out W} {fb : Sto → Out W} {pos : Pos} (hs : noSet b = true) (sa : SndE X (kx X Z) Γ S a oa) (sb : ∀ S1, SndE X (kx X Z) Γ S1 b (fb S1)) : SndE X (kx X Z) Γ S (.Compare a [cOp op] [b] pos) (oa.bind (two fb (cmpW T op))) := by
  intro hb σ F H μ rel st er
  refine we_cmp (behind_of hs) (sa.th hb rel st er fun x S1 e1 F1 H1 μ1 v g1 s1 r1 hb1 er1 => ?_)
  refine (sb S1).th hb1 (rel.gr g1) s1 er1 fun y S2 e2 F2 H2 μ2 u g2 s2 r2 hb2 er2 => ?_
  exact (opw_cmpW C s2 (r1.gr g2) r2 hb2 er2).mono fun v H' q => by
    simp only [e1, e2, Out.bind_ok, two]
    exact (q.back g2).back g1
theorem snd_tcmp (C : Cok X M T Z lv) {op : CO} {oa : Out W} {fb : Sto → Out W} {pos : Pos} (hs : noSet b = true) (sa : SndE X (kx X Z) Γ S a oa) (sb : ∀ S1, SndE X (kx X Z) Γ S1 b (fb S1)) : SndT X (kx X Z) Γ S (.Compare a [cOp op] [b] pos) (oa.bind (two fb (cmpT T op))) := by
  intro hb σ F H μ rel st er
  refine wt_cmp (behind_of hs) (sa.th hb rel st er fun x S1 e1 F1 H1 μ1 v g1 s1 r1 hb1 er1 => ?_)
  refine (sb S1).th hb1 (rel.gr g1) s1 er1 fun y S2 e2 F2 H2 μ2 u g2 s2 r2 hb2 er2 => ?_
  have hb3 : cmpW T op x y S2 ≠ .bad := fun q => hb2 (by unfold cmpT; rw [q]; rfl)
  have er3 : ErrE X (kx X Z) σ F2 H2 μ2 S2 (cmpW T op x y S2) := fun e S' q => er2 e S' (by unfold cmpT; rw [q]; rfl)
  refine (opw_cmpW C s2 (r1.gr g2) r2 hb3 er3).mono fun v H' q => ?_
  obtain ⟨z, e, q⟩ := PoO.test isB_cmpW q
  refine ⟨z, e, ?_⟩
  simp only [e1, e2, Out.bind_ok, two]
  exact (PoT.back g2 q).back g1
theorem isB_chK1 {o : CO} {mc : Sto → Out W} {y x : W} : isB (chK1 T o mc y x S) := by
  intro w S' h
  unfold chK1 at h
  split at h
  · split at h
    · obtain ⟨z, S1, _, h⟩ := Out.bind_ok' h
      exact isB_cmpW w S' h
    · exact isB_okB w S' h
  · cases h
theorem isB_chK {o1 o2 : CO} {mc : Sto → Out W} {y x : W} : isB (chK T o1 o2 mc x y S) := by
  intro w S' h
  unfold chK at h
  obtain ⟨z, S1, _, h⟩ := Out.bind_ok' h
  exact isB_chK1 w S' h
/-- the second link of a chain -/
theorem chain_two (C : Cok X M T Z lv) {o1 o2 : CO} {c : Expr} {fc : Sto → Out W} {x y : W} {v u : V} (sc : ∀ S1, SndE X (kx X Z) Γ S1 c (fc S1)) (rel : RelG (kx X Z) F μ S.length Γ σ) (st : StoOk (kx X Z) F H μ S) (hx : RpW (kx X Z) F μ S.length x v) (hy : RpW (kx X Z) F μ S.length y u)
    (hb : chK T o1 o2 fc x y S ≠ .bad) (er : ErrE X (kx X Z) σ F H μ S (chK T o1 o2 fc x y S)) {Q : VK} (hQ : ∀ v H', PoO (kx X Z) F H μ S (chK T o1 o2 fc x y S) v H' → Q v H') :
    OpW X (compareOp (cOp o1)) σ v u H fun z H3 => ∃ k, z = .bl k ∧ (if k = true then WE X c σ H3 fun w H4 => OpW X (compareOp (cOp o2)) σ u w H4 Q else Q (.bl false) H3) := by
  have hb1 : cmpW T o1 x y S ≠ .bad := fun q => hb (by unfold chK; rw [q]; rfl)
  have er1 : ErrE X (kx X Z) σ F H μ S (cmpW T o1 x y S) := fun e S' q => er e S' (by unfold chK; rw [q]; rfl)
  refine (opw_cmpW C st hx hy hb1 er1).mono fun z H3 q => ?_
  unfold chK at hb er hQ
  cases ho : cmpW T o1 x y S with
  | bad => exact absurd ho hb1
  | err e S1 => rw [ho] at q; exact q.elim
  | ok w1 S1 =>
    obtain ⟨k, rfl⟩ := isB_cmpW w1 S1 ho
    rw [ho] at q hb er hQ
    obtain ⟨F1, μ1, g1, s1, r1⟩ := q
    refine ⟨k, bl_at r1, ?_⟩
    cases k with
    | false =>
      rw [if_neg (by decide)]
      exact hQ _ _ ⟨F1, μ1, g1, s1, by simp [RpW, Rp]⟩
    | true =>
      rw [if_pos rfl]
      have hb : (fc S1).bind (chK2 T o2 y) ≠ .bad := hb
      have er : ErrE X (kx X Z) σ F H μ S ((fc S1).bind (chK2 T o2 y)) := er
      refine (sc S1).th hb (rel.gr g1) s1 (er.fwd g1) fun w S2 e2 F2 H2 μ2 u' g2 s2 r2 hb2 er2 => ?_
      refine (opw_cmpW C s2 ((hy.gr g1).gr g2) r2 hb2 er2).mono fun v H' q => hQ _ _ ?_
      show PoO (kx X Z) F H μ S ((fc S1).bind (chK2 T o2 y)) v H'
      rw [e2]
      exact (q.back g2).back g1
theorem snd_chain (C : Cok X M T Z lv) {o1 o2 : CO} {c : Expr} {oa : Out W} {fb fc : Sto → Out W} {pos : Pos} (hs : noSet c = true) (sa : SndE X (kx X Z) Γ S a oa) (sb : ∀ S1, SndE X (kx X Z) Γ S1 b (fb S1)) (sc : ∀ S1, SndE X (kx X Z) Γ S1 c (fc S1)) :
    SndE X (kx X Z) Γ S (.Compare a [cOp o1, cOp o2] [b, c] pos) (oa.bind (two fb (chK T o1 o2 fc))) := by
  intro hb σ F H μ rel st er
  refine we_chain (by first | exact behind_of hs | rfl) (sa.th hb rel st er fun x S1 e1 F1 H1 μ1 v g1 s1 r1 hb1 er1 => ?_)
  refine (sb S1).th hb1 (rel.gr g1) s1 er1 fun y S2 e2 F2 H2 μ2 u g2 s2 r2 hb2 er2 => ?_
  exact chain_two C sc ((rel.gr g1).gr g2) s2 (r1.gr g2) r2 hb2 er2 fun v H' q => by
    simp only [e1, e2, Out.bind_ok, two]
    exact (q.back g2).back g1
theorem snd_tchain (C : Cok X M T Z lv) {o1 o2 : CO} {c : Expr} {oa : Out W} {fb fc : Sto → Out W} {pos : Pos} (hs : noSet c = true) (sa : SndE X (kx X Z) Γ S a oa) (sb : ∀ S1, SndE X (kx X Z) Γ S1 b (fb S1)) (sc : ∀ S1, SndE X (kx X Z) Γ S1 c (fc S1)) :
    SndT X (kx X Z) Γ S (.Compare a [cOp o1, cOp o2] [b, c] pos) (oa.bind (two fb (chT T o1 o2 fc))) := by
  intro hb σ F H μ rel st er
  refine wt_chain (by first | exact behind_of hs | rfl) (sa.th hb rel st er fun x S1 e1 F1 H1 μ1 v g1 s1 r1 hb1 er1 => ?_)
  refine (sb S1).th hb1 (rel.gr g1) s1 er1 fun y S2 e2 F2 H2 μ2 u g2 s2 r2 hb2 er2 => ?_
  have hb3 : chK T o1 o2 fc x y S2 ≠ .bad := fun q => hb2 (by unfold chT; rw [q]; rfl)
  have er3 : ErrE X (kx X Z) σ F2 H2 μ2 S2 (chK T o1 o2 fc x y S2) := fun e S' q => er2 e S' (by unfold chT; rw [q]; rfl)
  have := chain_two C (Q := fun z H5 => ∃ k, z = .bl k ∧ PoT (kx X Z) F H μ S (oa.bind (two fb (chT T o1 o2 fc))) k H5) sc ((rel.gr g1).gr g2) s2 (r1.gr g2) r2 hb3 er3 fun v H' q => by
    obtain ⟨z, e, q⟩ := PoO.test isB_chK q
    refine ⟨z, e, ?_⟩
    simp only [e1, e2, Out.bind_ok, two]
    exact (PoT.back g2 q).back g1
  refine this.mono fun z H3 ⟨k, e, q⟩ => ⟨k, e, ?_⟩
  cases k with
  | true => exact q
  | false =>
    rw [if_neg (by decide)] at q ⊢
    obtain ⟨k', e', q⟩ := q
    cases e'
    exact q
theorem snd_neg {oa : Out W} {pos : Pos} (sa : SndE X (kx X Z) Γ S a oa) : SndE X (kx X Z) Γ S (.UnaryOp .USub a pos) (oa.bind negK) := by
  intro hb σ F H μ rel st er
  refine we_un (sa.th hb rel st er fun x S1 e1 F1 H1 μ1 v g1 s1 r1 hb1 er1 => ?_)
  rw [e1]
  cases x with
  | r n => exact absurd rfl hb1
  | v d =>
    cases d with
    | int i =>
      simp only [RpW, Rp] at r1
      subst r1
      intro pins s vv I rv
      exact un_neg pins s σ H1 (.int i) vv _ I rv ⟨i, rfl, PoW.back g1 (.int s1)⟩
    | _ => exact absurd rfl hb1
theorem snd_notv (C : Cok X M T Z lv) {oa : Out W} {pos : Pos} (sa : SndE X (kx X Z) Γ S a oa) : SndE X (kx X Z) Γ S (.UnaryOp .Not a pos) (oa.bind (notW T)) := by
  intro hb σ F H μ rel st er
  refine we_un (sa.th hb rel st er fun x S1 e1 F1 H1 μ1 v g1 s1 r1 hb1 er1 => ?_)
  rw [e1]
  intro pins s vv I rv
  have hb2 : truW T x S1 ≠ .bad := fun q => hb1 (by unfold notW; rw [q]; rfl)
  have er2 : ErrE X (kx X Z) σ F1 H1 μ1 S1 (truW T x S1) := fun e S' q => er1 e S' (by unfold notW; rw [q]; rfl)
  refine not_of (thn (trw_truW C s1 r1 hb2 er2 pins s vv I rv) fun c s2 ⟨H2, I2, q⟩ => ⟨.bl (!c), H2, I2, rfl, ?_⟩)
  show PoO (kx X Z) F H μ S (notW T x S1) _ _
  unfold notW
  cases ho : truW T x S1 with
  | bad => exact absurd ho hb2
  | err e S2 => rw [ho] at q; exact q.elim
  | ok z S2 =>
    rw [ho] at q
    obtain ⟨rfl, F2, μ2, g2, s2⟩ := q
    exact ⟨F2, μ2, g1.trans g2, s2, by simp [RpW, Rp]⟩
/-- and, or: the truth, then one of the two -/
theorem truth_then (C : Cok X M T Z lv) {x : W} {v : V} (st : StoOk (kx X Z) F H μ S) (hx : RpW (kx X Z) F μ S.length x v) {k : Bool → Sto → Out W} (hb : (truW T x S).bind k ≠ .bad) (er : ErrE X (kx X Z) σ F H μ S ((truW T x S).bind k)) {Q : Bool → Hp → Prop}
    (h : ∀ z S1, truW T x S = .ok z S1 → ∀ F1 H1 μ1, Gr F H μ S F1 H1 μ1 S1 → StoOk (kx X Z) F1 H1 μ1 S1 → k z S1 ≠ .bad → ErrE X (kx X Z) σ F1 H1 μ1 S1 (k z S1) → Q z H1) : TrW X σ v H Q := by
  have hb2 : truW T x S ≠ .bad := fun q => hb (by rw [q]; rfl)
  have er2 : ErrE X (kx X Z) σ F H μ S (truW T x S) := fun e S' q => er e S' (by rw [q]; rfl)
  intro pins s vv I rv
  refine thn (trw_truW C st hx hb2 er2 pins s vv I rv) fun c s2 ⟨H2, I2, q⟩ => ⟨H2, I2, ?_⟩
  cases ho : truW T x S with
  | bad => exact absurd ho hb2
  | err e S2 => rw [ho] at q; exact q.elim
  | ok z S2 =>
    rw [ho] at q hb er
    obtain ⟨rfl, F2, μ2, g2, s2⟩ := q
    exact h c S2 ho F2 H2 μ2 g2 s2 hb (er.fwd g2)
theorem snd_and (C : Cok X M T Z lv) {rest : List Expr} {oa : Out W} {fb : Sto → Out W} {pos : Pos} (sa : SndE X (kx X Z) Γ S a oa) (sb : ∀ S1, SndE X (kx X Z) Γ S1 (.BoolOp .And (b :: rest) pos) (fb S1)) : SndE X (kx X Z) Γ S (.BoolOp .And (a :: b :: rest) pos) (oa.bind (andE T fb)) := by
  intro hb σ F H μ rel st er pins s I
  refine BoolOp_and (thn (sa.th (R := fun v H1 => TrW X σ v H1 fun z H2 => if z = true then WE X (.BoolOp .And (b :: rest) pos) σ H2 (PoO (kx X Z) F H μ S (oa.bind (andE T fb))) else PoO (kx X Z) F H μ S (oa.bind (andE T fb)) v H2) hb rel st er (fun x S1 e1 F1 H1 μ1 v g1 s1 r1 hb1 er1 => ?_) pins s I) fun v s1 ⟨x, H1, I1, r1, q1⟩ => ?_)
  · refine truth_then C s1 r1 hb1 er1 fun z S2 hz F2 H2 μ2 g2 s2 hb2 er2 => ?_
    have e : oa.bind (andE T fb) = (truW T x S1).bind (andK fb x) := by rw [e1]; rfl
    rw [e, hz]
    cases z with
    | true =>
      rw [if_pos rfl]
      exact (sb S2 hb2 σ F2 H2 μ2 ((rel.gr g1).gr g2) s2 er2).mono fun v H' q => (PoO.back g2 q).back g1
    | false =>
      rw [if_neg (by decide)]
      exact ⟨F2, μ2, g1.trans g2, s2, r1.gr g2⟩
  · refine thn (q1 pins s1 v I1 r1) fun c s2 ⟨H2, I2, q2⟩ => ?_
    cases c with
    | true => exact q2 pins s2 I2
    | false => exact ⟨x, H2, I2, r1, q2⟩
theorem snd_or (C : Cok X M T Z lv) {rest : List Expr} {oa : Out W} {fb : Sto → Out W} {pos : Pos} (sa : SndE X (kx X Z) Γ S a oa) (sb : ∀ S1, SndE X (kx X Z) Γ S1 (.BoolOp .Or (b :: rest) pos) (fb S1)) : SndE X (kx X Z) Γ S (.BoolOp .Or (a :: b :: rest) pos) (oa.bind (orE T fb)) := by
  intro hb σ F H μ rel st er pins s I
  refine BoolOp_or (thn (sa.th (R := fun v H1 => TrW X σ v H1 fun z H2 => if z = true then PoO (kx X Z) F H μ S (oa.bind (orE T fb)) v H2 else WE X (.BoolOp .Or (b :: rest) pos) σ H2 (PoO (kx X Z) F H μ S (oa.bind (orE T fb)))) hb rel st er (fun x S1 e1 F1 H1 μ1 v g1 s1 r1 hb1 er1 => ?_) pins s I) fun v s1 ⟨x, H1, I1, r1, q1⟩ => ?_)
  · refine truth_then C s1 r1 hb1 er1 fun z S2 hz F2 H2 μ2 g2 s2 hb2 er2 => ?_
    have e : oa.bind (orE T fb) = (truW T x S1).bind (orK fb x) := by rw [e1]; rfl
    rw [e, hz]
    cases z with
    | false =>
      rw [if_neg (by decide)]
      exact (sb S2 hb2 σ F2 H2 μ2 ((rel.gr g1).gr g2) s2 er2).mono fun v H' q => (PoO.back g2 q).back g1
    | true =>
      rw [if_pos rfl]
      exact ⟨F2, μ2, g1.trans g2, s2, r1.gr g2⟩
  · refine thn (q1 pins s1 v I1 r1) fun c s2 ⟨H2, I2, q2⟩ => ?_
    cases c with
    | false => exact q2 pins s2 I2
    | true => exact ⟨x, H2, I2, r1, q2⟩
theorem snd_one {op : BoolOp} {oa : Out W} {pos : Pos} (sa : SndE X (kx X Z) Γ S a oa) : SndE X (kx X Z) Γ S (.BoolOp op [a] pos) oa := fun hb σ F H μ rel st er => .of (pe_one WE.pe) (sa hb σ F H μ rel st er)
theorem snd_ifx {c : Expr} {oc : Out Bool} {fa fb : Sto → Out W} {pos : Pos} (sc : SndT X (kx X Z) Γ S c oc) (sa : ∀ S1, SndE X (kx X Z) Γ S1 a (fa S1)) (sb : ∀ S1, SndE X (kx X Z) Γ S1 b (fb S1)) : SndE X (kx X Z) Γ S (.IfExp c a b pos) (oc.bind (ifE fa fb)) := by
  intro hb σ F H μ rel st er
  refine .of (pe_ifExp WT.pt WE.pe WE.pe) (sc.th hb rel st er fun z S1 e1 F1 H1 μ1 g1 s1 hb1 er1 => ?_)
  rw [e1]
  cases z with
  | true => rw [if_pos rfl]; exact (sa S1 hb1 σ F1 H1 μ1 (rel.gr g1) s1 er1).mono fun v H' q => PoO.back g1 q
  | false => rw [if_neg (by decide)]; exact (sb S1 hb1 σ F1 H1 μ1 (rel.gr g1) s1 er1).mono fun v H' q => PoO.back g1 q
end
end NV

namespace NV
open PySem L2
open PyProof.Rows hiding St

section
variable {X : Cx} {M : Nm} {T : Tb} {Z : Zt} {lv : Nat} {σ : St} {F H : Hp} {μ : Nat → Addr} {S : Sto} {Γ : Env'} {a b : Expr}
/-! ### displays, arguments -/
theorem snd_nil : SndL X (kx X Z) Γ S [] (.ok [] S) := fun hb σ F H μ rel st er => .of pa_nil ⟨F, μ, .refl, st, RpWs.nil'⟩
theorem snd_cons {e : Expr} {es : List Expr} {oe : Out W} {fl : Sto → Out (List W)} (hs : noStar e = true) (se : SndE X (kx X Z) Γ S e oe) (sl : ∀ S1, SndL X (kx X Z) Γ S1 es (fl S1)) : SndL X (kx X Z) Γ S (e :: es) (oe.bind (consE fl)) := by
  intro hb σ F H μ rel st er
  refine .of (pa_cons WE.pe WA.pa (starEach_cons hs)) (se.th hb rel st er fun x S1 e1 F1 H1 μ1 v g1 s1 r1 hb1 er1 => ?_)
  refine (sl S1).th hb1 (rel.gr g1) s1 er1 fun l S2 e2 F2 H2 μ2 vs g2 s2 r2 hb2 er2 => ?_
  simp only [e1, e2, Out.bind_ok, consE]
  exact ⟨F2, μ2, g1.trans g2, s2, RpWs.cons' (r1.gr g2) r2⟩
theorem snd_star {e : Expr} {es : List Expr} {oe : Out W} {fl : Sto → Out (List W)} {p : Pos} (se : SndE X (kx X Z) Γ S e oe) (sl : ∀ S1, SndL X (kx X Z) Γ S1 es (fl S1)) : SndL X (kx X Z) Γ S (.Starred e p :: es) (oe.bind (starE fl)) := by
  intro hb σ F H μ rel st er
  refine .of (StX.pa_star WE.pe WA.pa) (se.th hb rel st er fun x S1 e1 F1 H1 μ1 v g1 s1 r1 hb1 er1 => ?_)
  obtain ⟨l, hl, hb2⟩ := opt_ne hb1
  obtain ⟨a, vs, rfl, hs, hv⟩ := seq_at s1 r1 hl
  have ee : oe.bind (starE fl) = (fl S1).bind (appK l) := by rw [e1]; show starE fl x S1 = _; unfold starE; rw [hl]; rfl
  have ex : starE fl x S1 = (fl S1).bind (appK l) := by unfold starE; rw [hl]; rfl
  rw [ex] at er1
  refine ⟨a, vs, rfl, hs.symm, ?_⟩
  refine (sl S1).th hb2 (rel.gr g1) s1 er1 fun m S2 e2 F2 H2 μ2 us g2 s2 r2 hb3 er2 => ?_
  rw [ee, e2]
  exact ⟨F2, μ2, g1.trans g2, s2, (hv.gr g2).app r2⟩
theorem agw {es : List Expr} {ol : Out (List W)} (sl : SndL X (kx X Z) Γ S es ol) (h0 : es = [] → ol = .ok [] S) {α : Type} {f : List W → Sto → Out α} (hb : ol.bind f ≠ .bad) (rel : RelG (kx X Z) F μ S.length Γ σ) (st : StoOk (kx X Z) F H μ S) (er : ErrE X (kx X Z) σ F H μ S (ol.bind f)) {R : List V → Hp → Prop}
    (cont : ∀ x S1, ol = .ok x S1 → ∀ F1 H1 μ1 v, Gr F H μ S F1 H1 μ1 S1 → StoOk (kx X Z) F1 H1 μ1 S1 → RpWs (kx X Z) F1 μ1 S1.length x v → f x S1 ≠ .bad → ErrE X (kx X Z) σ F1 H1 μ1 S1 (f x S1) → R v H1) : AgW X es σ H R := by
  cases es with
  | nil =>
    have e := h0 rfl
    exact cont [] S e F H μ [] .refl st RpWs.nil' (by rw [e] at hb; exact hb) (by rw [e] at er; exact er)
  | cons e r => exact sl.th hb rel st er cont
theorem snd_tup {es : List Expr} {ol : Out (List W)} {kk : Nat} {pos : Pos} (sl : SndL X (kx X Z) Γ S es ol) : SndE X (kx X Z) Γ S (.Tuple es kk pos) (ol.bind tupK) := by
  intro hb σ F H μ rel st er
  refine .of (pe_tup WA.pa) (sl.th hb rel st er fun l S1 e1 F1 H1 μ1 vs g1 s1 r1 hb1 er1 => ?_)
  obtain ⟨hz, hb2⟩ := need_ne hb1
  refine ⟨by rw [r1.len]; exact hz, fun p hp => ?_⟩
  have e2 : ol.bind tupK = match unV l with | some ds => okD S1 (.tup ds) | none => alc (.tup l) S1 := by
    rw [e1]; show tupK l S1 = _; unfold tupK; first | (rw [need_pos hz]; done) | (rw [need_pos hz]; cases unV l <;> rfl)
  rw [e2]
  cases hu : unV l with
  | some ds => exact PoW.back g1 (.newT s1 (r1.unV hu) p hp)
  | none => exact PoW.back g1 (.newTC s1 r1 p hp)
theorem snd_lst {es : List Expr} {ol : Out (List W)} {pos : Pos} (sl : SndL X (kx X Z) Γ S es ol) : SndE X (kx X Z) Γ S (.List es pos) (ol.bind lstK) := by
  intro hb σ F H μ rel st er
  refine .of (pe_lst WA.pa) (sl.th hb rel st er fun l S1 e1 F1 H1 μ1 vs g1 s1 r1 hb1 er1 => ?_)
  obtain ⟨hz, hb2⟩ := need_ne hb1
  refine ⟨by rw [r1.len]; exact hz, fun p hp => ?_⟩
  have e2 : ol.bind lstK = alc (.lst l) S1 := by rw [e1]; show lstK l S1 = _; unfold lstK; rw [need_pos hz]
  rw [e2]
  exact PoW.back g1 (.newL s1 r1 p hp)
/-! ### subscripts -/
theorem atI_rps {k : Kx} {N : Nat} {l : List W} {vs : List V} {i : Int} {d : W} (h : RpWs k F μ N l vs) (e : atI l i = some d) : ∃ v, atI vs i = some v ∧ RpW k F μ N d v := by
  unfold atI at e ⊢
  rw [h.len]
  cases q : ixN l.length i with
  | none => rw [q] at e; cases e
  | some j =>
    rw [q] at e
    exact h.get e
def rIdx (K : PySem.W.Frag) : R2 := fun x y H Q => (rIxL K x y H Q ∨ rIxT K x y H Q) ∨ rIxS x y H Q
theorem ixAny {X : Cx} : IxR X (rIdx X.K) := (ix_list.or ix_tup).or ix_str
theorem idx_ok {x y w : W} {S' : Sto} {v u : V} {Q : VK} (st : StoOk (kx X Z) F H μ S) (hx : RpW (kx X Z) F μ S.length x v) (hy : RpW (kx X Z) F μ S.length y u) (h : idxW x y S = .ok w S') (q : ∀ v H', PoW (kx X Z) F H μ S w S' v H' → Q v H') : rIdx X.K v u H Q := by
  have gen : ∀ l i, seqOf S x = some l → intW y = some i → ∀ d, atI l i = some d → okW S d = .ok w S' → rIdx X.K v u H Q := fun l i h1 h2 d h3 h4 => by
    obtain ⟨rfl, rfl⟩ := okW_ok h4
    obtain ⟨a, vs, rfl, hs, hv⟩ := seq_at st hx h1
    have := int_at hy h2
    subst this
    obtain ⟨z, hz, hr⟩ := atI_rps hv h3
    rcases hs with hs | hs
    · exact .inl (.inl ⟨a, vs, i, z, rfl, rfl, hs, hz, q _ _ (.w st hr)⟩)
    · exact .inl (.inr ⟨a, vs, i, z, rfl, rfl, hs, hz, q _ _ (.w st hr)⟩)
  unfold idxW at h
  split at h
  · obtain ⟨i, h1, h⟩ := opt_ok h
    obtain ⟨c, h⟩ := need_ok h
    obtain ⟨ch, h2, h⟩ := opt_ok h
    obtain ⟨rfl, rfl⟩ := okD_ok h
    have := int_at hy h1
    subst this
    simp only [RpW, Rp] at hx
    subst hx
    exact .inr ⟨_, _, ch, rfl, rfl, c, h2, q _ _ (.str st)⟩
  · rename_i l
    obtain ⟨i, h1, h⟩ := opt_ok h
    obtain ⟨d, h2, h⟩ := opt_ok h
    obtain ⟨rfl, rfl⟩ := okD_ok h
    have := int_at hy h1
    subst this
    simp only [RpW, Rp] at hx
    obtain ⟨a, rfl, ha⟩ := hx
    refine .inl (.inl ⟨a, l.map V.int, _, .int d, rfl, rfl, st.sub.seq ha, ?_, q _ _ (.int st)⟩)
    unfold atI at h2 ⊢
    rw [List.length_map]
    cases q : ixN l.length i with
    | none => rw [q] at h2; cases h2
    | some j =>
      rw [q] at h2
      show (l.map V.int)[j]? = _
      rw [List.getElem?_map]
      have hd : l[j]? = some d := h2
      rw [hd]; rfl
  · obtain ⟨l, h1, h⟩ := opt_ok h
    obtain ⟨i, h2, h⟩ := opt_ok h
    obtain ⟨d, h3, h⟩ := opt_ok h
    exact gen l i h1 h2 d h3 h
theorem idxW_err {x y : W} {e : Er} {S' : Sto} (h : idxW x y S = .err e S') : False := by
  unfold idxW at h
  split at h
  · obtain ⟨i, h1, h⟩ := opt_err h
    obtain ⟨c, h⟩ := need_err h
    obtain ⟨ch, h2, h⟩ := opt_err h
    cases h
  · obtain ⟨i, h1, h⟩ := opt_err h
    obtain ⟨d, h2, h⟩ := opt_err h
    cases h
  · obtain ⟨l, h1, h⟩ := opt_err h
    obtain ⟨i, h2, h⟩ := opt_err h
    obtain ⟨d, h3, h⟩ := opt_err h
    cases h
theorem snd_idx {oa : Out W} {fb : Sto → Out W} {pos : Pos} (hs : noSlice b = true) (sa : SndE X (kx X Z) Γ S a oa) (sb : ∀ S1, SndE X (kx X Z) Γ S1 b (fb S1)) : SndE X (kx X Z) Γ S (.Subscript a b pos) (oa.bind (two fb idxW)) := by
  intro hb σ F H μ rel st er
  refine .of (pe_ix ixAny WE.pe WE.pe (plainIx_of hs)) (sa.th hb rel st er fun x S1 e1 F1 H1 μ1 v g1 s1 r1 hb1 er1 => ?_)
  refine (sb S1).th hb1 (rel.gr g1) s1 er1 fun y S2 e2 F2 H2 μ2 u g2 s2 r2 hb2 er2 => ?_
  have ee : oa.bind (two fb idxW) = idxW x y S2 := by rw [e1]; show (fb S1).bind _ = _; rw [e2]; rfl
  rw [ee]
  rcases Out.ne_cases hb2 with ⟨w, S3, ho⟩ | ⟨e, S3, ho⟩
  · rw [ho]
    exact idx_ok s2 (r1.gr g2) r2 ho fun v H' q => (PoW.back g2 q).back g1
  · exact (idxW_err ho).elim
theorem cut_rps {k : Kx} {N : Nat} {l : List W} {vs : List V} (h : RpWs k F μ N l vs) (lo hi : Option Int) : RpWs k F μ N (cutW l lo hi) (cutV vs lo hi) := by
  unfold cutW cutV
  rw [h.len]
  exact (h.drop _).take _
def rSli (K : PySem.W.Frag) : V → Option Int → Option Int → Hp → VK → Prop := fun x lo hi H Q => rSlL K x lo hi H Q ∨ rSlS x lo hi H Q
theorem slAny {X : Cx} : SlR X (rSli X.K) := sl_list.or sl_str
def WO (X : Cx) (e : Option Expr) : TO := fun σ H Q => ∀ (pins : List (Addr × Obj)) (s : Shared), Inv X pins σ H s →
    wpAny (model X.prog X.w) X.A (evalPart e X.env) (fun u s' => ∃ o H', Inv X pins σ H' s' ∧ IsPart u o ∧ Q o H') X.xe s
theorem WO.po {X : Cx} {e : Option Expr} : PO X e (WO X e) := ⟨fun pins s _ _ _ I h => h pins s I⟩
theorem WO.of {X : Cx} {e : Option Expr} {t : TO} {σ : St} {H : Hp} {Q : Option Int → Hp → Prop} (h : PO X e t) (q : t σ H Q) : WO X e σ H Q := fun pins s I => h.run pins s σ H Q I q
theorem WO.mono {X : Cx} {e : Option Expr} {σ : St} {H : Hp} {Q Q' : Option Int → Hp → Prop} (h : WO X e σ H Q) (k : ∀ o H', Q o H' → Q' o H') : WO X e σ H Q' := fun pins s I =>
  thn (h pins s I) fun _ _ ⟨o, H', I', r, q⟩ => ⟨o, H', I', r, k o H' q⟩
def PoI (k : Kx) (F H : Hp) (μ : Nat → Addr) (S : Sto) : Out (Option Int) → Option Int → Hp → Prop
  | .ok b S' => fun z H' => z = b ∧ ∃ F' μ', Gr F H μ S F' H' μ' S' ∧ StoOk k F' H' μ' S'
  | _ => fun _ _ => False
def SndO (X : Cx) (k : Kx) (Γ : Env') (S : Sto) (e : Option Expr) (o : Out (Option Int)) : Prop := o ≠ .bad → ∀ σ F H μ, RelG k F μ S.length Γ σ → StoOk k F H μ S → ErrE X k σ F H μ S o → WO X e σ H (PoI k F H μ S o)
theorem SndO.th {k : Kx} {α : Type} {e : Option Expr} {oa : Out (Option Int)} {f : Option Int → Sto → Out α} (sa : SndO X k Γ S e oa) (hb : oa.bind f ≠ .bad) (rel : RelG k F μ S.length Γ σ) (st : StoOk k F H μ S) (er : ErrE X k σ F H μ S (oa.bind f)) {R : Option Int → Hp → Prop}
    (cont : ∀ x S1, oa = .ok x S1 → ∀ F1 H1 μ1, Gr F H μ S F1 H1 μ1 S1 → StoOk k F1 H1 μ1 S1 → f x S1 ≠ .bad → ErrE X k σ F1 H1 μ1 S1 (f x S1) → R x H1) : WO X e σ H R := by
  cases oa with
  | ok x S1 =>
    refine (sa (by simp) σ F H μ rel st .ok).mono fun v H1 ⟨e, F1, μ1, g, s1⟩ => ?_
    subst e
    exact cont v S1 rfl F1 H1 μ1 g s1 hb (er.fwd g)
  | err e S1 =>
    exact (sa (by simp) σ F H μ rel st (fun e' S' q => by cases q; exact er e S1 rfl)).mono fun v H1 h => h.elim
  | bad => exact absurd rfl hb
theorem snd_ono : SndO X (kx X Z) Γ S none (.ok none S) := fun hb σ F H μ rel st er => .of po_none ⟨rfl, F, μ, .refl, st⟩
theorem snd_oso {oa : Out W} (sa : SndE X (kx X Z) Γ S a oa) : SndO X (kx X Z) Γ S (some a) (oa.bind poK) := fun hb σ F H μ rel st er =>
  .of (po_some WE.pe) (sa.th hb rel st er fun x S1 e1 F1 H1 μ1 v g1 s1 r1 hb1 er1 => by
    cases x with
    | r n => exact absurd rfl hb1
    | v d =>
      cases d with
      | int i =>
        simp only [RpW, Rp] at r1
        rw [e1]
        exact ⟨i, r1, rfl, F1, μ1, g1, s1⟩
      | _ => exact absurd rfl hb1)
theorem sliW_err {x : W} {lo hi : Option Int} {e : Er} {S' : Sto} (h : sliW x lo hi S = .err e S') : False := by
  unfold sliW at h
  split at h
  · obtain ⟨c, h⟩ := need_err h
    cases h
  · obtain ⟨l, h1, h⟩ := opt_err h
    cases h
theorem snd_sli {oa : Out W} {fl fh : Sto → Out (Option Int)} {lo hi : Option Expr} {p2 pos : Pos} (sa : SndE X (kx X Z) Γ S a oa) (sl : ∀ S1, SndO X (kx X Z) Γ S1 lo (fl S1)) (sh : ∀ S1, SndO X (kx X Z) Γ S1 hi (fh S1)) : SndE X (kx X Z) Γ S (.Subscript a (.Slice lo hi none p2) pos) (oa.bind (slK fl fh)) := by
  intro hb σ F H μ rel st er
  refine .of (pe_slice slAny WE.pe WO.po WO.po) (sa.th hb rel st er fun x S1 e1 F1 H1 μ1 v g1 s1 r1 hb1 er1 => ?_)
  refine (sl S1).th hb1 (rel.gr g1) s1 er1 fun l S2 e2 F2 H2 μ2 g2 s2 hb2 er2 => ?_
  refine (sh S2).th hb2 ((rel.gr g1).gr g2) s2 er2 fun h S3 e3 F3 H3 μ3 g3 s3 hb3 er3 => ?_
  have ee : oa.bind (slK fl fh) = sliW x l h S3 := by
    rw [e1]; show (fl S1).bind _ = _; rw [e2]; show (fh S2).bind _ = _; rw [e3]; rfl
  rw [ee]
  have r3 := (r1.gr g2).gr g3
  have hb3 : sliW x l h S3 ≠ .bad := hb3
  rcases Out.ne_cases hb3 with ⟨w, S4, ho⟩ | ⟨e, S4, ho⟩
  · rw [ho]
    unfold sliW at ho
    split at ho
    · obtain ⟨c, ho⟩ := need_ok ho
      obtain ⟨rfl, rfl⟩ := okD_ok ho
      simp only [RpW, Rp] at r3
      subst r3
      exact .inr ⟨_, rfl, c, ((PoW.str s3).back g3 |>.back g2).back g1⟩
    · obtain ⟨m, h1, ho⟩ := opt_ok ho
      obtain ⟨rfl, rfl⟩ := alc_ok ho
      obtain ⟨a, vs, rfl, ha, hv⟩ := list_at s3 r3 h1
      exact .inl ⟨a, vs, rfl, .of ha, fun p hp => (((PoW.newL s3 (cut_rps hv _ _) p hp).back g3).back g2).back g1⟩
  · exact (sliW_err ho).elim
/-! ### calls -/
theorem snd_call (C : Cok X M T Z lv) {f : Nat} {ds : List Df} {x : Str} {es : List Expr} {ol : Out (List W)} {p pos : Pos} (hg : glB X.env.scope x = true) (hf : M.fs f = some x) (hn : nmB x = true) (hst : es.all noStar = true) (hd : ∀ ws S1, ol = .ok ws S1 → M.df f ws.length = ds) (sl : SndL X (kx X Z) Γ S es ol) (h0 : es = [] → ol = .ok [] S) :
    SndE X (kx X Z) Γ S (.Call (.Name x p) es [] pos) (ol.bind (callK T f ds)) := by
  intro hb σ F H μ rel st er
  obtain ⟨fa, hm, FF⟩ := C.fn f x hf
  refine we_callA (glB_gl hg) hm FF.kp (nmB_d hn).1 (star_he hst) ?_
  refine agw sl h0 hb rel st er fun ws S1 e1 F1 H1 μ1 vs g1 s1 r1 hb1 er1 => ?_
  rw [e1]
  exact (caw_fn FF (C.room.mono (Nat.le_succ _)) s1 r1 (hd ws S1 e1) hb1 er1).mono fun v H' q => PoO.back g1 q
theorem snd_mk (C : Cok X M T Z lv) {c f : Nat} {ds : List Df} {x : Str} {es : List Expr} {ol : Out (List W)} {p pos : Pos} (hg : glB X.env.scope x = true) (hc : M.cl c = some x) (hi : M.ini c = some f) (hn : nmB x = true) (hst : es.all noStar = true) (hd : ∀ ws S1, ol = .ok ws S1 → M.df f (ws.length + 1) = ds) (sl : SndL X (kx X Z) Γ S es ol) (h0 : es = [] → ol = .ok [] S) :
    SndE X (kx X Z) Γ S (.Call (.Name x p) es [] pos) (ol.bind (makeK T c f ds)) := by
  intro hb σ F H μ rel st er
  obtain ⟨fa, hM, FF⟩ := C.ini c f x hi hc
  refine we_callA (glB_gl hg) (C.nm c x hc) hM.kp (nmB_d hn).1 (star_he hst) ?_
  refine agw sl h0 hb rel st er fun ws S1 e1 F1 H1 μ1 vs g1 s1 r1 hb1 er1 => ?_
  rw [e1]
  exact (caw_mk hM FF C.room s1 r1 (hd ws S1 e1) hb1 er1).mono fun v H' q => PoO.back g1 q
theorem snd_mth (C : Cok X M T Z lv) {m : Str} {o : Expr} {oo : Out W} {es : List Expr} {fl : Sto → Out (List W)} {apos pos : Pos} (hu : noSuper o = true) (hst : es.all noStar = true) (hn : es.length < 30) (hl : (apos.endLine == pos.line) = true) (so : SndE X (kx X Z) Γ S o oo) (sl : ∀ S1, SndL X (kx X Z) Γ S1 es (fl S1)) (h0 : ∀ S1, es = [] → fl S1 = .ok [] S1) :
    SndE X (kx X Z) Γ S (.Call (.Attribute o m apos) es [] pos) (oo.bind (mthE T m [] fl)) := by
  intro hb σ F H μ rel st er
  refine we_meth (attr_base hu) hl (any_star hst) hn (star_he hst) (so.th hb rel st er fun x S1 e1 F1 H1 μ1 v g1 s1 r1 hb1 er1 => ?_)
  obtain ⟨⟨c, l⟩, ex, hb2⟩ := opt_ne hb1
  obtain ⟨f, hf, hb3⟩ := opt_ne hb2
  obtain ⟨a, dx, fs, vs, rfl, ha, hfo, hv⟩ := obj_at s1 r1 ex
  have CF := C.clf (asc_ne (g := CInfo.mths) hf rfl)
  obtain ⟨nm, fa, hM, FF⟩ := CF.meth _ _ hf
  have hci : (kx X Z).ci c = T.ci c := by rw [show (kx X Z).ci = Z.ci from rfl, C.ci]
  have em : mthE T m [] fl x S1 = (fl S1).bind (mthK T f [] x) := by unfold mthE; rw [ex]; simp only [opt_some]; rw [hf]; rfl
  refine ⟨a, dx, fs, Z.ca c, fa, rfl, ha, CF.cls, hM, hfo.no m (by rw [hci]; exact nm), ?_⟩
  rw [em] at er1
  refine agw (sl S1) (h0 S1) hb3 (rel.gr g1) s1 er1 fun ws S2 e2 F2 H2 μ2 us g2 s2 r2 hb4 er2 => ?_
  have ee : oo.bind (mthE T m [] fl) = callW T f (x :: ws) S2 := by
    rw [e1]; show mthE T m [] fl x S1 = _; rw [em, e2]; show callW T f (x :: (ws ++ dfs [])) S2 = _; rw [dfs_nil, List.append_nil]
  have e3 : mthK T f [] x ws S2 = callW T f (x :: ws) S2 := by show callW T f (x :: (ws ++ dfs [])) S2 = _; rw [dfs_nil, List.append_nil]
  rw [e3] at hb4 er2
  rw [ee]
  exact (caw_sp FF (C.room.mono (Nat.le_succ _)) s2 (RpWs.cons' (r1.gr g2) r2) hb4 er2).mono fun v H' q => (PoO.back g2 q).back g1
/-! ### attributes -/
theorem ixOf_get : ∀ {x : Str} {l : List Str} {i : Nat}, ixOf x l = some i → l[i]? = some x
  | x, [], i, h => by cases h
  | x, y :: l, i, h => by
    unfold ixOf at h
    split at h
    · cases h
      rename_i e
      rw [e]; rfl
    · obtain ⟨j, h1, rfl⟩ := Option.map_eq_some_iff.mp h
      simpa using ixOf_get h1
theorem snd_fld (C : Cok X M T Z lv) {nm : Str} {o : Expr} {oo : Out W} {pos : Pos} (hu : noSuper o = true) (so : SndE X (kx X Z) Γ S o oo) : SndE X (kx X Z) Γ S (.Attribute o nm pos) (oo.bind (fldW T nm)) := by
  intro hb σ F H μ rel st er
  refine .of (pe_fld WE.pe (attr_base hu)) (so.th hb rel st er fun x S1 e1 F1 H1 μ1 v g1 s1 r1 hb1 er1 => ?_)
  obtain ⟨⟨c, l⟩, ex, hb2⟩ := opt_ne hb1
  obtain ⟨w, hw, hb3⟩ := opt_ne hb2
  obtain ⟨a, dx, fs, vs, rfl, ha, hfo, hv⟩ := obj_at s1 r1 ex
  have hci : (kx X Z).ci c = T.ci c := by rw [show (kx X Z).ci = Z.ci from rfl, C.ci]
  rw [hci] at hfo
  have ee : oo.bind (fldW T nm) = .ok w S1 := by
    rw [e1]; show fldW T nm x S1 = _; unfold fldW; rw [ex]; simp only [opt_some]; rw [hw]; rfl
  unfold fldK at hw
  dsimp only at hw
  split at hw
  · rename_i i hi
    have hg := ixOf_get hi
    have hne : T.ci c ≠ default := fun e => by rw [e] at hg; cases hg
    have CF := C.clf hne
    obtain ⟨z, hz, hr⟩ := hv.get hw
    refine ⟨a, _, dx, fs, z, rfl, ha, CF.cls, CF.noat nm (List.mem_of_getElem? hg), by rw [hfo.at_ i nm hg]; exact hz, ?_⟩
    rw [ee]
    exact (PoW.w s1 hr).back g1
  · cases hw
theorem snd_con (C : Cok X M T Z lv) {nm : Str} {o : Expr} {oo : Out W} {pos : Pos} (hu : noSuper o = true) (so : SndE X (kx X Z) Γ S o oo) : SndE X (kx X Z) Γ S (.Attribute o nm pos) (oo.bind (conW T nm)) := by
  intro hb σ F H μ rel st er
  refine .of (pe_con WE.pe (attr_base hu)) (so.th hb rel st er fun x S1 e1 F1 H1 μ1 v g1 s1 r1 hb1 er1 => ?_)
  obtain ⟨⟨c, l⟩, ex, hb2⟩ := opt_ne hb1
  obtain ⟨d, hd, hb3⟩ := opt_ne hb2
  obtain ⟨a, dx, fs, vs, rfl, ha, hfo, hv⟩ := obj_at s1 r1 ex
  have hci : (kx X Z).ci c = T.ci c := by rw [show (kx X Z).ci = Z.ci from rfl, C.ci]
  rw [hci] at hfo
  have CF := C.clf (asc_ne (g := CInfo.cons) hd rfl)
  obtain ⟨hn, z, u, hc, hr⟩ := CF.con _ _ hd
  refine ⟨a, _, dx, fs, z, u, rfl, ha, CF.cls, hc, hfo.no nm hn, ?_⟩
  have ee : oo.bind (conW T nm) = .ok (.v d) S1 := by
    rw [e1]; show conW T nm x S1 = _; unfold conW; rw [ex]; simp only [opt_some]; rw [hd]; rfl
  rw [ee]
  exact (PoW.v s1 (hr F1)).back g1
theorem snd_prp (C : Cok X M T Z lv) {nm : Str} {o : Expr} {oo : Out W} {pos : Pos} (hu : noSuper o = true) (so : SndE X (kx X Z) Γ S o oo) : SndE X (kx X Z) Γ S (.Attribute o nm pos) (oo.bind (prpW T nm)) := by
  intro hb σ F H μ rel st er pins s I
  refine attr_of (attr_base hu) (thn (so.th (R := fun v H1 => ∀ pins s, Inv X pins σ H1 s → ∀ u, RelV v u → wpAny (model X.prog X.w) X.A (getAttr u nm true) (EP X pins σ (PoO (kx X Z) F H μ S (oo.bind (prpW T nm)))) X.xe s) hb rel st er (fun x S1 e1 F1 H1 μ1 v g1 s1 r1 hb1 er1 => ?_) pins s I) fun u s1 ⟨x, H1, I1, rx, q⟩ => q pins s1 I1 u rx)
  obtain ⟨⟨c, l⟩, ex, hb2⟩ := opt_ne hb1
  obtain ⟨f, hf, hb3⟩ := opt_ne hb2
  obtain ⟨a, dx, fs, vs, rfl, ha, hfo, hv⟩ := obj_at s1 r1 ex
  have CF := C.clf (asc_ne (g := CInfo.prps) hf rfl)
  obtain ⟨p, fa, hp, FF⟩ := CF.prop _ _ hf
  obtain ⟨fd, ps, hF, har, h0, _⟩ := FF.ok
  intro pins s I u ru
  obtain rfl : u = Value.ref a := ru
  have hne : callW T f [x] S1 ≠ .bad := fun q => hb3 (by rw [q]; rfl)
  obtain ⟨S0, hne0⟩ := callW_ne hne
  cases ho : callW T f [x] S1 with
  | bad => exact absurd ho hne
  | err e S2 => rw [ho] at hb3; exact absurd rfl hb3
  | ok w S2 =>
    have ee : oo.bind (prpW T nm) = .ok w S2 := by
      rw [e1]; show prpW T nm x S1 = _; unfold prpW; rw [ex]; simp only [opt_some]; rw [hf]; simp only [opt_some]; rw [ho]; rfl
    rw [ee]
    exact getprop_ok (CX := L2.CX X.prog X.w) (E := fun _ _ _ => False) I ha CF.cls hp hF C.room h0 .nil (fun pins σ H s e s' I c => by obtain ⟨_, _, _, _, _, _, _, _, _, _, _, _, hh⟩ := c; exact hh.elim)
      (call_sp (Q := PoO (kx X Z) F H μ S (.ok w S2)) s1 (RpWs.cons' r1 RpWs.nil') (by simpa using har _ _ hne0) ho (by simp) (fun e S' q => nomatch q) fun v H' p => PoO.back g1 p)
end
end NV

namespace NV
open PySem L2
open PyProof.Rows hiding St

section
variable {X : Cx} {M : Nm} {T : Tb} {Z : Zt} {lv : Nat} {σ : St} {F H : Hp} {μ : Nat → Addr} {S : Sto} {Γ : Env'} {a b : Expr}
/-! ### builtins of one argument -/
theorem scr_at {l : List Int} {v : V} (st : StoOk (kx X Z) F H μ S) (h : Rp (kx X Z) F (.scr l) v) : ∃ a, v = .ref a ∧ SqL X.K H a (l.map V.int) := by
  simp only [Rp] at h
  obtain ⟨a, rfl, ha⟩ := h
  exact ⟨a, rfl, st.sub.seq ha⟩
theorem list_sq {w : W} {v : V} (st : StoOk (kx X Z) F H μ S) (h : RpW (kx X Z) F μ S.length w v) {l : List W} (e : listOf S w = some l) : ∃ a vs, v = .ref a ∧ SqL X.K H a vs ∧ RpWs (kx X Z) F μ S.length l vs := by
  obtain ⟨a, vs, h1, h2, h3⟩ := list_at st h e
  exact ⟨a, vs, h1, .of h2, h3⟩
/-- a pure outcome, at a call rule -/
theorem caw_pure {f : Value} {rr : List V → Hp → VK → Prop} (h : CallR X f rr) {vs : List V} {o : Out W} {w : W} {S' : Sto} (e : o = .ok w S') (q : rr vs H (PoW (kx X Z) F H μ S w S')) : CaW X σ f vs H (PoO (kx X Z) F H μ S o) := by
  subst e
  exact .of h q
theorem caw_len' (C : Cok X M T Z lv) {x : W} {v : V} (st : StoOk (kx X Z) F H μ S) (hx : RpW (kx X Z) F μ S.length x v) (hb : biW T .len x S ≠ .bad) : CaW X σ (.builtin "len") [v] H (PoO (kx X Z) F H μ S (biW T .len x S)) := by
  have gen : ∀ l, seqOf S x = some l → ∀ o, o = okD S (.int l.length) → CaW X σ (.builtin "len") [v] H (PoO (kx X Z) F H μ S o) := fun l hl o ho => by
    obtain ⟨a, vs, rfl, ha, hv⟩ := seq_at st hx hl
    refine caw_pure call_len ho ⟨_, l.length, rfl, ?_, PoW.int st⟩
    rcases ha with ha | ha
    · exact .inl ⟨vs, ha, hv.len.symm⟩
    · exact .inr ⟨vs, ha, hv.len.symm⟩
  have own : ∀ p, objOf S x = some p → ∀ o, o = (opt (asc "__len__" (T.ci p.1).mths) fun f => lenO (callW T f [x] S)) → o ≠ .bad → CaW X σ (.builtin "len") [v] H (PoO (kx X Z) F H μ S o) := fun ⟨c, l⟩ hp o ho hb => by
    subst ho
    obtain ⟨f, hf, hb⟩ := opt_ne hb
    simp only [hf, opt_some] at hb ⊢
    exact caw_len C st hx hp hf hb
  have rest : ∀ o, o = (match objOf S x with
      | some p => opt (asc "__len__" (T.ci p.1).mths) fun f => lenO (callW T f [x] S)
      | none => opt (seqOf S x) fun l => okD S (.int l.length)) → o ≠ .bad → CaW X σ (.builtin "len") [v] H (PoO (kx X Z) F H μ S o) := fun o ho hb => by
    cases hp : objOf S x with
    | some p => rw [hp] at ho; exact own p hp o ho hb
    | none =>
      rw [hp] at ho
      subst ho
      obtain ⟨l, hl, hb⟩ := opt_ne hb
      simp only [hl, opt_some]
      exact gen l hl _ rfl
  cases x with
  | r n => exact rest _ rfl hb
  | v d =>
    cases d with
    | str z =>
      obtain ⟨c, _⟩ := need_ne (show need (z.length ≤ sizeLine) (okD S (.int z.length)) ≠ .bad from hb)
      simp only [RpW, Rp] at hx
      subst hx
      exact caw_pure call_len (show biW T .len (.v (.str z)) S = .ok (.v (.int z.length)) S from need_pos c) ⟨_, z.length, rfl, ⟨c, rfl⟩, PoW.int st⟩
    | scr l =>
      obtain ⟨a, rfl, ha⟩ := scr_at st hx
      exact caw_pure call_len (show biW T .len (.v (.scr l)) S = .ok (.v (.int l.length)) S from rfl) ⟨_, l.length, rfl, .inl ⟨_, ha, by simp⟩, PoW.int st⟩
    | _ => exact rest _ rfl hb
theorem caw_int {x : W} {v : V} (st : StoOk (kx X Z) F H μ S) (hx : RpW (kx X Z) F μ S.length x v) (hb : biW T .int x S ≠ .bad) : CaW X σ (.type "int") [v] H (PoO (kx X Z) F H μ S (biW T .int x S)) := by
  have cr := (call_int1 (X := X)).or call_int_str
  cases x with
  | r n => exact absurd rfl hb
  | v d =>
    cases d with
    | int i => simp only [RpW, Rp] at hx; subst hx; exact caw_pure cr (show _ = Out.ok _ S from rfl) (.inl (.inl ⟨i, rfl, PoW.int st⟩))
    | bl z => simp only [RpW, Rp] at hx; subst hx; exact caw_pure cr (show _ = Out.ok _ S from rfl) (.inl (.inr ⟨z, rfl, PoW.int st⟩))
    | str z =>
      obtain ⟨n, hn, hb⟩ := opt_ne (show (opt (PySem.intText? z) fun n => need (z.length ≤ 640) (okD S (.int n))) ≠ .bad from hb)
      obtain ⟨c, _⟩ := need_ne hb
      simp only [RpW, Rp] at hx
      subst hx
      refine caw_pure cr (show (opt (PySem.intText? z) fun n => need (z.length ≤ 640) (okD S (.int n))) = Out.ok (.v (.int n)) S from ?_) (.inr ⟨z, n, rfl, hn, c, PoW.int st⟩)
      rw [hn]
      exact need_pos c
    | _ => exact absurd rfl hb
theorem Room.in2 {A : Around} (r : Room (lv + 1) A) : Room lv A.in1.in1 := ⟨r.hd, by have := r.dp; show A.depth + 3 * lv + 5 < _; omega, by have := r.un; show A.units + 1 + 1 + 16 * lv + 200 < _; omega⟩
theorem caw_boolO (C : Cok X M T Z lv) {x : W} {v : V} (st : StoOk (kx X Z) F H μ S) (hx : RpW (kx X Z) F μ S.length x v) {c : Nat} {l' : List W} (ex : objOf S x = some (c, l')) {f : Nat} (hf : asc "__bool__" (T.ci c).mths = some f)
    (hb : boolN (callW T f [x] S) ≠ .bad) : CaW X σ (.type "bool") [v] H (PoO (kx X Z) F H μ S (boolN (callW T f [x] S))) := by
  intro pins s us I rv
  obtain ⟨b, dy, gs, vs, rfl, hb', _, _⟩ := obj_at st hx ex
  obtain ⟨u, rfl, ru⟩ := vals1 rv
  obtain rfl : u = Value.ref b := ru
  have CF := C.clf (asc_ne (g := CInfo.mths) hf rfl)
  obtain ⟨_, fa, hm, FF⟩ := CF.meth _ _ hf
  obtain ⟨oy, oe, J⟩ := Inv.obj I hb'
  obtain ⟨m, hF⟩ := I.fr
  obtain ⟨fd, ps, hFn, har, h0, _⟩ := FF.ok
  have hne : callW T f [x] S ≠ .bad := fun q => hb (by rw [q]; rfl)
  obtain ⟨S0, hne0⟩ := callW_ne hne
  have hlen := har _ _ hne0
  cases ho : callW T f [x] S with
  | bad => exact absurd ho hne
  | err e S1 => rw [ho] at hb; exact absurd rfl hb
  | ok w S1 =>
    rw [ho] at hb
    have hw : ∃ i, w = .v (.bl i) := by
      cases w with
      | r n => exact absurd rfl hb
      | v d => cases d <;> first | exact ⟨_, rfl⟩ | exact absurd rfl hb
    obtain ⟨i, rfl⟩ := hw
    refine NVcall_bool (PySem.W.truthy_K hF I.ok.mod.kin J hm.at_ hm.fn ?_)
    refine wpAny_call (codeAny_mono (hFn.run X.A.in1.in1 X.stack s H ⟨[.ref b], []⟩ [.ref b] [.ref b] _ (fun _ _ _ => False) (Room.in2 C.room) I.env0.in1.in1 (by simpa using h0 s [.ref b] I.kIn (by simpa using hlen)) (.cons rfl .nil)
      (call_sp (Q := PoO (kx X Z) F H μ S (.ok (.v (.bl i)) S1)) st (RpWs.cons' hx RpWs.nil') (by simpa using hlen) ho (by simp) (fun e S' q => nomatch q) fun v H' p => p)) fun r s' hq => ?_)
    cases r with
    | error er => exact False.elim (by
        obtain ⟨_, _, _, _, _, _, _, _, _, _, _, _, hh⟩ := hq
        exact hh)
    | ok fl =>
      cases fl with
      | ret u =>
        obtain ⟨z, H', I3, rz, F', μ', g, s0, rr⟩ := I.after hq
        have : z = .bl i := bl_at rr
        subst this
        cases rz
        exact ⟨.bl i, H', I3, rfl, F', μ', g, s0, rr⟩
      | next => exact False.elim hq
      | brk => exact False.elim hq
      | cont => exact False.elim hq
theorem caw_bool (C : Cok X M T Z lv) {x : W} {v : V} (st : StoOk (kx X Z) F H μ S) (hx : RpW (kx X Z) F μ S.length x v) (hb : biW T .bool x S ≠ .bad) : CaW X σ (.type "bool") [v] H (PoO (kx X Z) F H μ S (biW T .bool x S)) := by
  have cr := (call_bool1 (X := X)).or call_boolL
  unfold biW at hb ⊢
  dsimp only at hb ⊢
  cases hp : objOf S x with
  | some p =>
    obtain ⟨c, l⟩ := p
    rw [hp] at hb
    obtain ⟨f, hf, hb⟩ := opt_ne hb
    simp only [hf, opt_some]
    exact caw_boolO C st hx hp hf hb
  | none =>
  rw [hp] at hb
  dsimp only at hb ⊢
  cases hl : listOf S x with
  | some l =>
    obtain ⟨a, vs, rfl, ha, hv⟩ := list_sq st hx hl
    have e : vs.isEmpty = l.isEmpty := by
      have := hv.len
      cases l <;> cases vs <;> first | rfl | simp at this
    refine caw_pure cr (show _ = Out.ok _ S from rfl) (.inr ⟨a, vs, rfl, ha, ?_⟩)
    rw [e]
    exact PoW.bl st
  | none =>
    rw [hl] at hb
    cases x with
    | r n => exact absurd rfl hb
    | v d =>
      cases d with
      | int i => simp only [RpW, Rp] at hx; subst hx; exact caw_pure cr (show _ = Out.ok _ S from rfl) (.inl (.inl ⟨i, rfl, PoW.bl st⟩))
      | bl z => simp only [RpW, Rp] at hx; subst hx; exact caw_pure cr (show _ = Out.ok _ S from rfl) (.inl (.inr ⟨z, rfl, PoW.bl st⟩))
      | _ => exact absurd rfl hb
theorem caw_str {x : W} {v : V} (st : StoOk (kx X Z) F H μ S) (hx : RpW (kx X Z) F μ S.length x v) (hb : biW T .str x S ≠ .bad) : CaW X σ (.type "str") [v] H (PoO (kx X Z) F H μ S (biW T .str x S)) := by
  cases x with
  | r n => exact absurd rfl hb
  | v d =>
    cases d with
    | str i => simp only [RpW, Rp] at hx; subst hx; exact caw_pure SkE.call_str_str (show _ = Out.ok _ S from rfl) ⟨i, rfl, PoW.str st⟩
    | _ => exact absurd rfl hb
theorem bools_at {x : W} {v : V} (st : StoOk (kx X Z) F H μ S) (hx : RpW (kx X Z) F μ S.length x v) {g : List Bool → Out W} (hb : (opt (listOf S x) fun l => opt (unV l) fun ds => opt (boolsOf ds) g) ≠ .bad) :
    ∃ a bs, v = .ref a ∧ SqL X.K H a (bs.map V.bl) ∧ (opt (listOf S x) fun l => opt (unV l) fun ds => opt (boolsOf ds) g) = g bs := by
  obtain ⟨l, hl, hb⟩ := opt_ne hb
  obtain ⟨ds, hd, hb⟩ := opt_ne hb
  obtain ⟨bs, hs, hb⟩ := opt_ne hb
  obtain ⟨a, vs, rfl, ha, hv⟩ := list_sq st hx hl
  rw [(hv.unV hd).bools hs] at ha
  exact ⟨a, bs, rfl, ha, by simp only [hl, hd, hs, opt_some]⟩
theorem caw_all (C : Cok X M T Z lv) {x : W} {v : V} (st : StoOk (kx X Z) F H μ S) (hx : RpW (kx X Z) F μ S.length x v) (hb : biW T .all x S ≠ .bad) : CaW X σ (.builtin "all") [v] H (PoO (kx X Z) F H μ S (biW T .all x S)) := by
  obtain ⟨a, bs, rfl, ha, e⟩ := bools_at st hx hb
  exact caw_pure (cr_all C.calm) e ⟨a, bs, rfl, ha, PoW.bl st⟩
theorem caw_any (C : Cok X M T Z lv) {x : W} {v : V} (st : StoOk (kx X Z) F H μ S) (hx : RpW (kx X Z) F μ S.length x v) (hb : biW T .any x S ≠ .bad) : CaW X σ (.builtin "any") [v] H (PoO (kx X Z) F H μ S (biW T .any x S)) := by
  obtain ⟨a, bs, rfl, ha, e⟩ := bools_at st hx hb
  exact caw_pure (cr_any C.calm) e ⟨a, bs, rfl, ha, PoW.bl st⟩
theorem caw_list {x : W} {v : V} (st : StoOk (kx X Z) F H μ S) (hx : RpW (kx X Z) F μ S.length x v) (hb : biW T .list x S ≠ .bad) : CaW X σ (.type "list") [v] H (PoO (kx X Z) F H μ S (biW T .list x S)) := by
  obtain ⟨l, hl, _⟩ := opt_ne (show (opt (seqOf S x) fun l => alc (.lst l) S) ≠ .bad from hb)
  obtain ⟨a, vs, rfl, ha, hv⟩ := seq_at st hx hl
  refine caw_pure call_list_of (show (opt (seqOf S x) fun l => alc (.lst l) S) = Out.ok (.r S.length) (S ++ [.lst l]) from by rw [hl]; rfl) ⟨a, vs, rfl, ha, fun p hp => PoW.newL st hv p hp⟩
theorem caw_tuple {x : W} {v : V} (st : StoOk (kx X Z) F H μ S) (hx : RpW (kx X Z) F μ S.length x v) (hb : biW T .tuple x S ≠ .bad) : CaW X σ (.type "tuple") [v] H (PoO (kx X Z) F H μ S (biW T .tuple x S)) := by
  have gen : ∀ o, o = (opt (listOf S x) fun l => opt (unV l) fun ds => okD S (.tup ds)) → o ≠ .bad → CaW X σ (.type "tuple") [v] H (PoO (kx X Z) F H μ S o) := fun o ho hb => by
    subst ho
    obtain ⟨l, hl, hb⟩ := opt_ne hb
    obtain ⟨ds, hd, hb⟩ := opt_ne hb
    obtain ⟨a, vs, rfl, ha, hv⟩ := list_sq st hx hl
    refine caw_pure call_tuple_of (show _ = Out.ok (.v (.tup ds)) S from by rw [hl]; simp only [opt_some, hd]; rfl) ⟨a, vs, rfl, .inl ⟨ha, fun p hp => PoW.newT st (hv.unV hd) p hp⟩⟩
  cases x with
  | r n => exact gen _ rfl hb
  | v d =>
    cases d with
    | tup l =>
      have hx' := hx
      obtain ⟨a, vs, rfl, ha, hv⟩ := seq_at (l := l.map W.v) st hx rfl
      simp only [RpW, Rp] at hx'
      obtain ⟨a', vs', e, h1, h2⟩ := hx'
      cases e
      exact caw_pure call_tuple_of (show _ = Out.ok (.v (.tup l)) S from rfl) ⟨a, vs', rfl, .inr ⟨sqT_mono st.sub h1, PoW.w st hx⟩⟩
    | _ => exact gen _ rfl hb
/-- the builtin -/
theorem rps_str {k : Kx} {F : Hp} : ∀ (l : List Str), Rps k F (l.map D.str) (l.map V.str)
  | [] => Rps.nil'
  | x :: l => Rps.cons' (by unfold Rp; rfl) (rps_str l)
theorem hasShp_of : ∀ {d : D} {h : Shp}, shpOf d = some h → hasShp h d = true := by
  intro d
  have key : ∀ (n : Nat) (d : D) (h : Shp), sizeOf d ≤ n → shpOf d = some h → hasShp h d = true := by
    intro n
    induction n with
    | zero =>
      intro d h hn e
      cases d <;> simp at hn
    | succ n ih =>
      intro d h hn e
      unfold shpOf at e
      split at e
      · cases e; rfl
      · cases e; rfl
      · rename_i x y
        split at e
        · rename_i a b ea eb
          cases e
          simp only [D.tup.sizeOf_spec, List.cons.sizeOf_spec, List.nil.sizeOf_spec] at hn
          simp [hasShp, ih x a (by omega) ea, ih y b (by omega) eb]
        · cases e
      · cases e
  exact fun {h} e => key _ d h (Nat.le_refl _) e
theorem pairsOk_all {l : List D} (h : pairsOk l = true) : ∃ a b, shpDep (.p a b) ≤ 5 ∧ ∀ d ∈ l, hasShp (.p a b) d = true := by
  cases l with
  | nil => exact ⟨.s, .s, by decide, by simp⟩
  | cons d l =>
    cases e : shpOf d with
    | none => simp only [pairsOk, e] at h; cases h
    | some q =>
      cases q with
      | s => simp only [pairsOk, e] at h; cases h
      | i => simp only [pairsOk, e] at h; cases h
      | p a b =>
        simp only [pairsOk, e, Bool.and_eq_true, decide_eq_true_eq] at h
        exact ⟨a, b, h.1, fun d hd => List.all_eq_true.mp h.2 d hd⟩
theorem caw_sorted (C : Cok X M T Z lv) {x : W} {v : V} (st : StoOk (kx X Z) F H μ S) (hx : RpW (kx X Z) F μ S.length x v) (hb : biW T .sorted x S ≠ .bad) : CaW X σ (.builtin "sorted") [v] H (PoO (kx X Z) F H μ S (biW T .sorted x S)) := by
  have e0 : biW T .sorted x S = opt (listOf S x) fun l => opt (unV l) fun ds => match strsOf ds with
    | some ss => need (ss.length < 64) (alc (.lst (((sortS ss).map D.str).map W.v)) S)
    | none => need (pairsOk ds = true) (alc (.lst ((sortT ds).map W.v)) S) := rfl
  rw [e0] at hb ⊢
  obtain ⟨l, hl, hb'⟩ := opt_ne hb
  obtain ⟨ds, hd, hb'⟩ := opt_ne hb'
  rw [hl]
  simp only [opt_some, hd]
  obtain ⟨a, vs, rfl, ha, hv⟩ := list_sq st hx hl
  cases hs : strsOf ds with
  | some ss =>
    rw [hs] at hb'
    obtain ⟨c, _⟩ := need_ne hb'
    have hvs := (hv.unV hd).strs hs
    subst hvs
    refine caw_pure cr_sortedS (show need (ss.length < 64) (alc (.lst (((sortS ss).map D.str).map W.v)) S) = Out.ok (.r S.length) (S ++ [.lst (((sortS ss).map D.str).map W.v)]) from by rw [need_pos c]; rfl) ⟨a, ss, rfl, ha, c, fun ys p hp hso hf => ?_⟩
    rw [sortS_uniq hp hso]
    exact PoW.newL st (rps_str _).ws p hf
  | none =>
    rw [hs] at hb'
    obtain ⟨c, _⟩ := need_ne hb'
    obtain ⟨sa, sb, hn, hall⟩ := pairsOk_all c
    have hr := hv.unV hd
    refine caw_pure (cr_sortedT (Z := Z) C.un) (show need (pairsOk ds = true) (alc (.lst ((sortT ds).map W.v)) S) = Out.ok (.r S.length) (S ++ [.lst ((sortT ds).map W.v)]) from by rw [need_pos c]; rfl) ⟨F, a, vs, ds, sa, sb, st.sub, rfl, ha, hr, hn, hall, fun us' q hr' hf => ?_⟩
    exact PoW.newL st hr'.ws q hf
def biV : Bi → Value
  | .len => .builtin "len" | .int => .type "int" | .all => .builtin "all" | .any => .builtin "any" | .list => .type "list" | .tuple => .type "tuple" | .str => .type "str" | .bool => .type "bool" | .sorted => .builtin "sorted" | .sum => .builtin "sum" | .min => .builtin "min" | .max => .builtin "max" | .iter => .builtin "iter"
theorem caw_bi (C : Cok X M T Z lv) {bi : Bi} {x : W} {v : V} (st : StoOk (kx X Z) F H μ S) (hx : RpW (kx X Z) F μ S.length x v) (hb : biW T bi x S ≠ .bad) : CaW X σ (biV bi) [v] H (PoO (kx X Z) F H μ S (biW T bi x S)) := by
  cases bi with
  | len => exact caw_len' C st hx hb
  | int => exact caw_int st hx hb
  | all => exact caw_all C st hx hb
  | any => exact caw_any C st hx hb
  | list => exact caw_list st hx hb
  | tuple => exact caw_tuple st hx hb
  | str => exact caw_str st hx hb
  | bool => exact caw_bool C st hx hb
  | sorted => exact caw_sorted C st hx hb
  | sum => exact absurd rfl hb
  | min => exact absurd rfl hb
  | max => exact absurd rfl hb
  | iter => exact absurd rfl hb
theorem boot_bi : ∀ b : Bi, biN b ∈ bltNames ∧ bootBuiltins (biN b) = some (biV b) ∧ biN b ≠ "__name__" ∧ (biN b == ("__debug__" : Str)) = false ∧ ((∃ i, biV b = .builtin i) ∨ ∃ t, biV b = .type t)
  | .len => ⟨by decide +kernel, by decide +kernel, by decide +kernel, by decide +kernel, .inl ⟨_, rfl⟩⟩
  | .int => ⟨by decide +kernel, by decide +kernel, by decide +kernel, by decide +kernel, .inr ⟨_, rfl⟩⟩
  | .all => ⟨by decide +kernel, by decide +kernel, by decide +kernel, by decide +kernel, .inl ⟨_, rfl⟩⟩
  | .any => ⟨by decide +kernel, by decide +kernel, by decide +kernel, by decide +kernel, .inl ⟨_, rfl⟩⟩
  | .list => ⟨by decide +kernel, by decide +kernel, by decide +kernel, by decide +kernel, .inr ⟨_, rfl⟩⟩
  | .tuple => ⟨by decide +kernel, by decide +kernel, by decide +kernel, by decide +kernel, .inr ⟨_, rfl⟩⟩
  | .str => ⟨by decide +kernel, by decide +kernel, by decide +kernel, by decide +kernel, .inr ⟨_, rfl⟩⟩
  | .bool => ⟨by decide +kernel, by decide +kernel, by decide +kernel, by decide +kernel, .inr ⟨_, rfl⟩⟩
  | .sorted => ⟨by decide +kernel, by decide +kernel, by decide +kernel, by decide +kernel, .inl ⟨_, rfl⟩⟩
  | .sum => ⟨by decide +kernel, by decide +kernel, by decide +kernel, by decide +kernel, .inl ⟨_, rfl⟩⟩
  | .min => ⟨by decide +kernel, by decide +kernel, by decide +kernel, by decide +kernel, .inl ⟨_, rfl⟩⟩
  | .max => ⟨by decide +kernel, by decide +kernel, by decide +kernel, by decide +kernel, .inl ⟨_, rfl⟩⟩
  | .iter => ⟨by decide +kernel, by decide +kernel, by decide +kernel, by decide +kernel, .inl ⟨_, rfl⟩⟩
theorem snd_bi (C : Cok X M T Z lv) {bi : Bi} {oa : Out W} {p pos : Pos} (hg : glB X.env.scope (biN bi) = true) (hs : noStar a = true) (sa : SndE X (kx X Z) Γ S a oa) : SndE X (kx X Z) Γ S (.Call (.Name (biN bi) p) [a] [] pos) (oa.bind (biW T bi)) := by
  intro hb σ F H μ rel st er
  have se : starEach [a] X.env = (false, eval a X.env) :: starEach [] X.env := starEach_cons hs
  obtain ⟨m1, m2, m3, m4, m5⟩ := boot_bi bi
  have h : WA X [a] σ H fun vs H1 => CaW X σ (biV bi) vs H1 (PoO (kx X Z) F H μ S (oa.bind (biW T bi))) :=
    .of (pa_cons WE.pe pa_nil se) (sa.th hb rel st er fun x S1 e1 F1 H1 μ1 v g1 s1 r1 hb1 er1 => by
      show CaW X σ (biV bi) [v] H1 _
      rw [e1]
      exact (caw_bi C s1 r1 hb1).mono fun v H' q => PoO.back g1 q)
  rcases m5 with ⟨i, e⟩ | ⟨t, e⟩
  · rw [e] at h m2
    exact we_callB (glB_gl hg) (C.blt _ m1) m2 m3 m4 se rfl h
  · rw [e] at h m2
    exact we_callTy (glB_gl hg) (C.blt _ m1) m2 m3 m4 se rfl h
theorem snd_bj (C : Cok X M T Z lv) {bj : Bj} {oa : Out W} {fb : Sto → Out W} {p pos : Pos} (hg : glB X.env.scope (bjN bj) = true) (hs : noStar a = true) (hs2 : noStar b = true) (sa : SndE X (kx X Z) Γ S a oa) (sb : ∀ S1, SndE X (kx X Z) Γ S1 b (fb S1)) : SndE X (kx X Z) Γ S (.Call (.Name (bjN bj) p) [a, b] [] pos) (oa.bind (two fb (bjW bj))) := by
  intro hb σ F H μ rel st er
  have sb' : starEach [b] X.env = (false, eval b X.env) :: starEach [] X.env := starEach_cons hs2
  have se : starEach [a, b] X.env = (false, eval a X.env) :: starEach [b] X.env := starEach_cons hs
  have hpl : (backTo pos (starEach [b] X.env)).any (·.1) = false := by rw [sb']; rfl
  have key : ∀ {rr : List V → Hp → VK → Prop}, (∀ x y S2 F2 H2 μ2 v u, StoOk (kx X Z) F2 H2 μ2 S2 → RpW (kx X Z) F2 μ2 S2.length x v → RpW (kx X Z) F2 μ2 S2.length y u → bjW bj x y S2 ≠ .bad → rr [v, u] H2 (PoO (kx X Z) F2 H2 μ2 S2 (bjW bj x y S2))) → (∀ vs H Q Q', (∀ v H', Q v H' → Q' v H') → rr vs H Q → rr vs H Q') →
      tCB rr (tCons (WE X a) (tCons (WE X b) tNil)) σ H (PoO (kx X Z) F H μ S (oa.bind (two fb (bjW bj)))) := fun hr hm =>
    sa.th hb rel st er fun x S1 e1 F1 H1 μ1 v g1 s1 r1 hb1 er1 => (sb S1).th hb1 (rel.gr g1) s1 er1 fun y S2 e2 F2 H2 μ2 u g2 s2 r2 hb2 er2 => by
      simp only [e1, e2, Out.bind_ok, two]
      exact hm _ _ _ _ (fun v H' q => (PoO.back g2 q).back g1) (hr x y S2 F2 H2 μ2 v u s2 (r1.gr g2) r2 hb2)
  cases bj with
  | min =>
    refine .of (pe_callB (call_min2 C.calm) (glB_gl hg) (C.blt _ (by decide +kernel)) (by decide +kernel) (pa_cons WE.pe (pa_cons WE.pe pa_nil sb') se) (by decide +kernel) (by decide +kernel) se hpl) (key (fun x y S2 F2 H2 μ2 v u s2 hx hy hb => ?_) fun vs H Q Q' k ⟨i, j, e, q⟩ => ⟨i, j, e, k _ _ q⟩)
    unfold bjW at hb ⊢
    split at hb
    · simp only [RpW, Rp] at hx hy; subst hx hy
      exact ⟨_, _, rfl, PoW.int s2⟩
    · exact absurd ‹Bj.min = Bj.max› (by decide)
    · exact absurd rfl hb
  | max =>
    refine .of (pe_callB (call_max2 C.calm) (glB_gl hg) (C.blt _ (by decide +kernel)) (by decide +kernel) (pa_cons WE.pe (pa_cons WE.pe pa_nil sb') se) (by decide +kernel) (by decide +kernel) se hpl) (key (fun x y S2 F2 H2 μ2 v u s2 hx hy hb => ?_) fun vs H Q Q' k ⟨i, j, e, q⟩ => ⟨i, j, e, k _ _ q⟩)
    unfold bjW at hb ⊢
    split at hb
    · exact absurd ‹Bj.max = Bj.min› (by decide)
    · simp only [RpW, Rp] at hx hy; subst hx hy
      exact ⟨_, _, rfl, PoW.int s2⟩
    · exact absurd rfl hb
/-! ### isinstance -/
theorem tyx_cls {x : W} {v : V} {n : String} (st : StoOk (kx X Z) F H μ S) (h : RpW (kx X Z) F μ S.length x v) (hc : clsW S x = some n) : TyX X.K H v (.type n) := by
  cases x with
  | r m =>
    unfold clsW at hc
    dsimp only at hc
    obtain ⟨rfl, hm⟩ := h
    split at hc
    · rename_i c hS
      cases c <;> try (simp only [clsC] at hc; cases hc)
      · obtain ⟨vs, h1, _⟩ := st.cell _ _ hS; exact .base (.lst h1)
      · obtain ⟨vs, h1, _⟩ := st.cell _ _ hS; exact .base (.tup h1)
    · cases hc
  | v d =>
    cases d with
    | non => cases hc; simp only [RpW, Rp] at h; subst h; exact .base .non
    | bl b => cases hc; simp only [RpW, Rp] at h; subst h; exact .base (.bl b)
    | int i => cases hc; simp only [RpW, Rp] at h; subst h; exact .base (.int i)
    | str s => cases hc; simp only [RpW, Rp] at h; subst h; exact .base (.str s)
    | lst l =>
      cases hc
      simp only [RpW, Rp] at h
      obtain ⟨a, vs, rfl, ha, _⟩ := h; exact .base (.lst (st.sub _ _ ha))
    | tup l =>
      cases hc
      simp only [RpW, Rp] at h
      obtain ⟨a, vs, rfl, ha, _⟩ := h
      rcases sqT_mono st.sub ha with (ha | ⟨o, ha⟩) | ⟨o, its, n, hk, hcl, _⟩
      · exact .base (.tup ha)
      · exact .fTuple ha
      · exact .kTuple hk hcl
    | dct _ _ => cases hc
    | ins _ _ => cases hc
    | scr l => cases hc
theorem clsW_mem {x : W} {n : String} (hc : clsW S x = some n) : n ∈ ["NoneType", "bool", "int", "str", "tuple", "list"] := by
  cases x with
  | r m =>
    unfold clsW at hc
    dsimp only at hc
    split at hc
    · rename_i c hS
      cases c <;> (simp only [clsC] at hc; try cases hc) <;> simp
    · cases hc
  | v d => cases d <;> (simp only [clsW, clsD] at hc; try cases hc) <;> simp
theorem isi_kit {t : Ty} {n : String} (h : n ∈ ["NoneType", "bool", "int", "str", "tuple", "list"]) : PySem.W.kitOne X.K (.type n) (.type (tyS t)) = some (tyB t n) := by
  simp only [List.mem_cons, List.not_mem_nil, or_false] at h
  rcases h with rfl | rfl | rfl | rfl | rfl | rfl <;> cases t <;> exact kit_ty (by decide +kernel)
theorem boot_ty : ∀ t : Ty, bootBuiltins (tyN t) = some (.type (tyS t))
  | .int => by decide +kernel
  | .str => by decide +kernel
  | .bool => by decide +kernel
  | .list => by decide +kernel
  | .tuple => by decide +kernel
theorem tyN_mem : ∀ t : Ty, tyN t ∈ bltNames ∧ tyN t ≠ "__name__" ∧ (tyN t == ("__debug__" : Str)) = false
  | .int => by decide +kernel
  | .str => by decide +kernel
  | .bool => by decide +kernel
  | .list => by decide +kernel
  | .tuple => by decide +kernel
theorem sups_ne {c c' : Nat} (h : (T.ci c).sups.contains c' = true) : T.ci c ≠ default := fun e => by rw [e] at h; cases h
theorem snd_isi (C : Cok X M T Z lv) {t : Ty} {oa : Out W} {p pz pos : Pos} (hg : glB X.env.scope "isinstance" = true) (hg2 : glB X.env.scope (tyN t) = true) (hs : noStar a = true) (sa : SndE X (kx X Z) Γ S a oa) :
    SndE X (kx X Z) Γ S (.Call (.Name "isinstance" p) [a, .Name (tyN t) pz] [] pos) (oa.bind (isiW T t)) := by
  intro hb σ F H μ rel st er
  have se : starEach [a, .Name (tyN t) pz] X.env = (false, eval a X.env) :: starEach [.Name (tyN t) pz] X.env := starEach_cons hs
  obtain ⟨m1, m2, m3⟩ := tyN_mem t
  refine .of (pe_callB call_isi (glB_gl hg) (C.blt _ (by decide +kernel)) (by decide +kernel) (pa_cons WE.pe (pa_cons (pe_bltn (v := .ty (tyS t)) (glB_gl hg2) (C.blt _ m1) (boot_ty t) rfl m2 m3) pa_nil) se) (by decide +kernel) (by decide +kernel) se rfl) ?_
  refine sa.th hb rel st er fun x S1 e1 F1 H1 μ1 v g1 s1 r1 hb1 er1 => ?_
  rw [e1]
  show ∃ (x' c : V) (t' u : Value) (b : Bool), _
  rw [show (Out.ok x S1).bind (isiW T t) = isiW T t x S1 from rfl]
  unfold isiW at hb1 ⊢
  split at hb1
  · rename_i q hq
    obtain ⟨c, l⟩ := q
    obtain ⟨hc, _⟩ := need_ne hb1
    obtain ⟨a', dx, fs, vs, rfl, ha, _, _⟩ := obj_at s1 r1 hq
    have hd := sups_ne hc
    simp only [hq]
    rw [need_pos hc]
    exact ⟨_, .ty (tyS t), .ref (Z.ca c), .type (tyS t), false, rfl, .ty _, .base ((C.clf hd).tyo _ _ _ _ ha), C.isb c t hd, (PoW.bl s1).back g1⟩
  · rename_i hq
    obtain ⟨n, hn, _⟩ := opt_ne hb1
    simp only [hq, hn, opt_some]
    exact ⟨v, .ty (tyS t), .type n, .type (tyS t), tyB t n, rfl, .ty _, tyx_cls s1 r1 hn, isi_kit (clsW_mem hn), (PoW.bl s1).back g1⟩
theorem snd_isc (C : Cok X M T Z lv) {c : Nat} {z : Str} {oa : Out W} {p pz pos : Pos} (hg : glB X.env.scope "isinstance" = true) (hz : M.cl c = some z) (hg2 : glB X.env.scope z = true) (hd : nmB z = true) (hs : noStar a = true) (sa : SndE X (kx X Z) Γ S a oa) :
    SndE X (kx X Z) Γ S (.Call (.Name "isinstance" p) [a, .Name z pz] [] pos) (oa.bind (iscW T c)) := by
  intro hb σ F H μ rel st er
  have se : starEach [a, .Name z pz] X.env = (false, eval a X.env) :: starEach [.Name z pz] X.env := starEach_cons hs
  have hn := nmB_d hd
  refine .of (pe_callB call_isi (glB_gl hg) (C.blt _ (by decide +kernel)) (by decide +kernel) (pa_cons WE.pe (pa_cons (pe_glob (v := .ref (Z.ca c)) (glB_gl hg2) (C.nm c z hz) rfl hn.1) pa_nil) se) (by decide +kernel) (by decide +kernel) se rfl) ?_
  refine sa.th hb rel st er fun x S1 e1 F1 H1 μ1 v g1 s1 r1 hb1 er1 => ?_
  rw [e1]
  show ∃ (x' c : V) (t' u : Value) (b : Bool), _
  rw [show (Out.ok x S1).bind (iscW T c) = iscW T c x S1 from rfl]
  unfold iscW at hb1 ⊢
  split at hb1
  · rename_i q hq
    obtain ⟨c', l⟩ := q
    obtain ⟨hc, _⟩ := need_ne hb1
    obtain ⟨a', dx, fs, vs, rfl, ha, _, _⟩ := obj_at s1 r1 hq
    have hd := sups_ne hc
    simp only [hq]
    rw [need_pos hc]
    exact ⟨_, .ref (Z.ca c), .ref (Z.ca c'), .ref (Z.ca c), _, rfl, .own _, .base ((C.clf hd).tyo _ _ _ _ ha), C.sub c' c z hz hd, (PoW.bl s1).back g1⟩
  · rename_i hq
    obtain ⟨n, hn, _⟩ := opt_ne hb1
    simp only [hq, hn, opt_some]
    exact ⟨v, .ref (Z.ca c), .type n, .ref (Z.ca c), false, rfl, .own _, tyx_cls s1 r1 hn, C.nos c z n hz (clsW_mem hn), (PoW.bl s1).back g1⟩
/-! ### methods of texts, list(range(..)) -/
theorem rps_strs {k : Kx} : ∀ {l : List Str}, Rps k F (l.map fun z => D.str z) (l.map V.str)
  | [] => Rps.nil'
  | z :: l => Rps.cons' (by unfold Rp; rfl) rps_strs
theorem snd_mt1 {m : Mt} (hm : m ≠ .starts) {oa : Out W} {fb : Sto → Out W} {apos pos : Pos} (hs : noStar b = true) (hu : noSuper a = true) (hl : (apos.endLine == pos.line) = true) (sa : SndE X (kx X Z) Γ S a oa) (sb : ∀ S1, SndE X (kx X Z) Γ S1 b (fb S1)) :
    SndE X (kx X Z) Γ S (.Call (.Attribute a (mtN m) apos) [b] [] pos) (oa.bind (mtE m fb)) := by
  intro hb σ F H μ rel st er
  have se : starEach [b] X.env = [(false, eval b X.env)] := starEach_cons hs
  have str1 : ∀ x S1, mtE m fb x S1 ≠ .bad → ∃ z, x = .v (.str z) := fun x S1 h => by
    cases x with
    | r n => exact absurd rfl h
    | v d => cases d <;> first | exact ⟨_, rfl⟩ | exact absurd rfl h
  cases m with
  | starts => exact absurd rfl hm
  | join =>
    refine .of (pe_join WE.pe WE.pe se (attr_base hu) hl) (sa.th hb rel st er fun x S1 e1 F1 H1 μ1 v g1 s1 r1 hb1 er1 => ?_)
    obtain ⟨z, rfl⟩ := str1 x S1 hb1
    simp only [RpW, Rp] at r1
    subst r1
    refine ⟨⟨z, rfl⟩, (sb S1).th (f := mt1W .join z) hb1 (rel.gr g1) s1 er1 fun y S2 e2 F2 H2 μ2 u g2 s2 r2 hb2 er2 => ?_⟩
    rw [e1]
    rw [show (Out.ok (W.v (.str z)) S1).bind (mtE .join fb) = (fb S1).bind (mt1W .join z) from rfl, e2]
    rw [show (Out.ok y S2).bind (mt1W .join z) = mt1W .join z y S2 from rfl]
    unfold mt1W at hb2 ⊢
    dsimp only at hb2 ⊢
    obtain ⟨l, hl', hb2⟩ := opt_ne hb2
    obtain ⟨ds, hd, hb2⟩ := opt_ne hb2
    obtain ⟨ys, hy, hb2⟩ := opt_ne hb2
    obtain ⟨c, _⟩ := need_ne hb2
    obtain ⟨p, vs, rfl, ha, hv⟩ := list_sq s2 r2 hl'
    rw [(hv.unV hd).strs hy] at ha
    refine ⟨z, p, ys, rfl, rfl, .inl ha, c, ?_⟩
    simp only [hl', hd, hy, opt_some]
    rw [need_pos c]
    exact ((PoW.str s2).back g2).back g1
  | split =>
    refine .of (pe_split WE.pe WE.pe se (attr_base hu) hl) (sa.th hb rel st er fun x S1 e1 F1 H1 μ1 v g1 s1 r1 hb1 er1 => ?_)
    obtain ⟨z, rfl⟩ := str1 x S1 hb1
    simp only [RpW, Rp] at r1
    subst r1
    refine ⟨⟨z, rfl⟩, (sb S1).th (f := mt1W .split z) hb1 (rel.gr g1) s1 er1 fun y S2 e2 F2 H2 μ2 u g2 s2 r2 hb2 er2 => ?_⟩
    rw [e1]
    rw [show (Out.ok (W.v (.str z)) S1).bind (mtE .split fb) = (fb S1).bind (mt1W .split z) from rfl, e2]
    rw [show (Out.ok y S2).bind (mt1W .split z) = mt1W .split z y S2 from rfl]
    cases y with
    | r n => exact absurd rfl hb2
    | v d =>
      cases d with
      | str t =>
        obtain ⟨c, _⟩ := need_ne (show need ((t.length == 0) = false ∧ z.length + 2 ≤ sizeLine) _ ≠ .bad from hb2)
        simp only [RpW, Rp] at r2
        subst r2
        refine ⟨z, t, rfl, rfl, c.1, c.2, fun p hp => ?_⟩
        rw [show mt1W .split z (.v (.str t)) S2 = alc (.lst ((Txt.split z t).map fun z => W.v (.str z))) S2 from need_pos c]
        have hr : RpWs (kx X Z) F2 μ2 S2.length ((Txt.split z t).map fun z => W.v (.str z)) ((Txt.split z t).map V.str) := by
          have := (rps_strs (k := kx X Z) (F := F2) (l := Txt.split z t)).ws (μ := μ2) (N := S2.length)
          rw [List.map_map] at this
          exact this
        exact ((PoW.newL s2 hr p hp).back g2).back g1
      | _ => exact absurd rfl hb2
theorem rps_range {k : Kx} {lo : Int} : ∀ {l : List Nat}, Rps k F (l.map fun (i : Nat) => D.int (lo + (i : Int))) (l.map fun (i : Nat) => V.int (lo + (i : Nat)))
  | [] => Rps.nil'
  | z :: l => Rps.cons' (by unfold Rp; rfl) rps_range
theorem snd_lrg (C : Cok X M T Z lv) {oa : Out W} {fb : Sto → Out W} {p p2 pos pos2 : Pos} (hg : glB X.env.scope "list" = true) (hg2 : glB X.env.scope "range" = true) (hs : noStar a = true) (hs2 : noStar b = true) (sa : SndE X (kx X Z) Γ S a oa) (sb : ∀ S1, SndE X (kx X Z) Γ S1 b (fb S1)) :
    SndE X (kx X Z) Γ S (.Call (.Name "list" p) [.Call (.Name "range" p2) [a, b] [] pos2] [] pos) (oa.bind (two fb lrK)) := by
  intro hb σ F H μ rel st er
  have sb' : starEach [b] X.env = (false, eval b X.env) :: starEach [] X.env := starEach_cons hs2
  have se : starEach [a, b] X.env = (false, eval a X.env) :: starEach [b] X.env := starEach_cons hs
  have hpl : (backTo pos2 (starEach [b] X.env)).any (·.1) = false := by rw [sb']; rfl
  refine .of (pe_listRgA C.calm (glB_gl hg) (C.blt _ (by decide +kernel)) (prg_2 (glB_gl hg2) (C.blt _ (by decide +kernel)) WE.pe WE.pe se sb' hpl)) ?_
  refine sa.th hb rel st er fun x S1 e1 F1 H1 μ1 v g1 s1 r1 hb1 er1 => (sb S1).th hb1 (rel.gr g1) s1 er1 fun y S2 e2 F2 H2 μ2 u g2 s2 r2 hb2 er2 => ?_
  simp only [e1, e2, Out.bind_ok, two]
  replace r1 := r1.gr g2
  unfold lrK at hb2 ⊢
  split at hb2
  · rename_i lo hi
    obtain ⟨c, _⟩ := need_ne hb2
    simp only [RpW, Rp] at r1 r2
    subst r1 r2
    refine ⟨lo, hi, rfl, rfl, by omega, fun q hq => ?_⟩
    rw [need_pos c]
    exact ((PoW.newL s2 (rps_range.ws) q hq).back g2).back g1
  · exact absurd rfl hb2
/-! ### settled -/
theorem snd_frz {oa : Out W} (sa : SndE X (kx X Z) Γ S a oa) : SndE X (kx X Z) Γ S a (oa.bind (frzW S.length)) := by
  intro hb σ F H μ rel st er
  cases oa with
  | bad => exact absurd rfl hb
  | err e S1 => exact (sa (by simp) σ F H μ rel st (fun e' S' q => by cases q; exact er e S1 rfl)).mono fun v H1 h => h.elim
  | ok x S1 =>
    refine (sa (by simp) σ F H μ rel st .ok).mono fun v H1 q => ?_
    show PoO _ _ _ _ _ (frzW S.length x S1) _ _
    have hb : frzW S.length x S1 ≠ .bad := hb
    rcases Out.ne_cases hb with ⟨w, S2, ho⟩ | ⟨e, S2, ho⟩
    · rw [ho]; exact frz_ok q ho
    · unfold frzW at ho
      split at ho
      · cases ho
      · obtain ⟨d, _, ho⟩ := opt_err ho
        obtain ⟨S0, _, ho⟩ := opt_err ho
        cases ho
/-! ### lent -/
theorem lendO_ok {F' H' : Hp} {w w' : W} {S' S1 : Sto} {v : V} (st : StoOk (kx X Z) F H μ S) (h : PoW (kx X Z) (Fl F H μ S) H μ [] w S' v H') (e : lendO S (.ok w S') = .ok w' S1) : PoW (kx X Z) F H μ S w' S1 v H' := by
  obtain ⟨F', μ', g, s', r⟩ := h
  obtain ⟨g0, s0⟩ := lent_gr st g s'.sub
  cases w with
  | v d =>
    obtain ⟨t, e⟩ := need_ok (show need (tupD d = true) (.ok (.v d) S) = .ok w' S1 from e)
    cases e
    exact ⟨_, μ, g0, s0, lent_rp st g s'.sub d t r⟩
  | r n =>
    unfold lendO at e
    dsimp only at e
    split at e
    · rename_i l hl
      split at e
      · rename_i ds hd
        obtain ⟨t, e⟩ := need_ok e
        obtain ⟨rfl, rfl⟩ := alc_ok e
        obtain ⟨vs, h1, h2, h3⟩ := s'.cell n _ hl
        obtain ⟨rfl, hn⟩ := r
        have hp : H (μ' n) = none := g.fresh n _ (by simp) hl (by simp)
        have hf : Fb F' μ S (μ' n) = none := by
          unfold Fb
          split
          · rfl
          · exact h2
        obtain ⟨g1, s1⟩ := adopt g0 s0 hp (fun m c' hm d' e => by
          obtain ⟨o, ho⟩ := (st.cell m c' hm).some d'
          rw [e, hp] at ho; cases ho) (c := .lst l) ⟨vs, h1, hf, by rw [unV_map hd]; exact (lent_rps st g s'.sub ds t (h3.unV hd)).ws⟩
        exact ⟨_, _, g1, s1, by rw [mu1_same], by simp⟩
      · cases e
    · cases e
theorem callL_ne {f : Nat} {ws : List W} (h : callL T f ws S ≠ .bad) : ∃ ds, lends S 4 ws = some ds ∧ T.fs f [] (ds.map W.v) ≠ .bad := by
  obtain ⟨ds, h1, h2⟩ := opt_ne h
  exact ⟨ds, h1, fun q => h2 (by unfold lendK; rw [q]; rfl)⟩
theorem lends_len {n : Nat} : ∀ {ws : List W} {ds : List D}, lends S n ws = some ds → ds.length = ws.length
  | [], ds, h => by
    have : some [] = some ds := by cases n <;> (unfold lends at h; exact h)
    cases this; rfl
  | w :: ws, ds, h => by
    unfold lends at h
    split at h
    · obtain ⟨m, h1, rfl⟩ := Option.map_eq_some_iff.mp h
      simp [lends_len h1]
    · cases h
theorem lend_sp {f n : Nat} {ws : List W} {vs : List V} (st : StoOk (kx X Z) F H μ S) (hw : RpWs (kx X Z) F μ S.length ws vs) (hn : vs.length = n) {o : Out W} (ho : callL T f ws S = o) (hb : o ≠ .bad) {E : XK} (hE : ∀ e S', o = .err e S' → ∀ cls d H', PoX (kx X Z) F H μ S e S' cls d H' → E cls d H') {Q : VK} (hQ : ∀ v H', PoO (kx X Z) F H μ S o v H' → Q v H') :
    spF (kx X Z) n (T.fs f) vs H Q E := by
  subst ho
  obtain ⟨ds, h1, h2⟩ := callL_ne hb
  have e0 : callL T f ws S = lendO S (T.fs f [] (ds.map W.v)) := by unfold callL; rw [h1]; rfl
  rw [e0] at hb hE hQ
  refine ⟨hn, Fl F H μ S, μ, [], ds.map W.v, ⟨Fl_in st, fun n c h => by simp at h, fun n m c c' h => by simp at h⟩, (lends_rp st 4 hw h1).ws, ?_⟩
  cases hf : T.fs f [] (ds.map W.v) with
  | bad => exact absurd hf h2
  | ok w S1 =>
    rw [hf] at hb hE hQ
    refine .inl ⟨w, S1, rfl, fun v H' p => hQ v H' ?_⟩
    rcases Out.ne_cases hb with ⟨w', S2, ho⟩ | ⟨e, S2, ho⟩
    · rw [ho]
      exact lendO_ok (F' := F) st p ho
    · cases w with
      | v d => obtain ⟨_, ho⟩ := need_err (show need (tupD d = true) (Out.ok (W.v d) S) = .err e S2 from ho); cases ho
      | r n =>
        unfold lendO at ho
        dsimp only at ho
        split at ho
        · split at ho
          · obtain ⟨_, ho⟩ := need_err ho; cases ho
          · cases ho
        · cases ho
  | err e S1 =>
    rw [hf] at hb hE hQ
    obtain ⟨t, _⟩ := need_ne (show need (tupDs e.fs = true) (.err e S) ≠ .bad from hb)
    refine .inr ⟨e, S1, rfl, fun cls d H' p => hE e S (need_pos t) cls d H' ?_⟩
    obtain ⟨F', μ', g, s', hc, dd, fs, vs', hd, hx, hfo, hrp⟩ := p
    obtain ⟨g0, s0⟩ := lent_gr st g s'.sub
    exact ⟨_, μ, g0, s0, hc, dd, fs, vs', hd, hx, hfo, lent_rps st g s'.sub _ t hrp⟩
theorem caw_lendg {f : Nat} {fa : Addr} {fd : FuncData} {ps : List Str} (hF : FnOk X.prog X.w X.K X.mg X.base (L2.CX X.prog X.w) lv fa fd ps (spF (kx X Z) ps.length (T.fs f))) (har : ∀ (S : Sto) (ws : List W), T.fs f S ws ≠ .bad → ws.length = ps.length) (hr : Room lv X.A)
    {dvs : List V} {dd : List Value} {dl : List D} (hv : Vals dvs dd) (hbn : Binds X.K fd ps dd) (hrp : Rps (kx X Z) F dl dvs) {ws : List W} {vs : List V} (st : StoOk (kx X Z) F H μ S) (hw : RpWs (kx X Z) F μ S.length ws vs) (hb : callL T f (ws ++ dl.map W.v) S ≠ .bad)
    (er : ErrE X (kx X Z) σ F H μ S (callL T f (ws ++ dl.map W.v) S)) : CaW X σ (.ref fa) vs H (PoO (kx X Z) F H μ S (callL T f (ws ++ dl.map W.v) S)) := by
  intro pins s us I rv
  obtain ⟨ds, h1, hne⟩ := callL_ne hb
  have hlen := har _ _ hne
  rw [List.length_map, lends_len h1] at hlen
  have hw' : RpWs (kx X Z) F μ S.length (ws ++ dl.map W.v) (vs ++ dvs) := hw.app hrp.ws
  rcases Out.ne_cases hb with ⟨w, S1, ho⟩ | ⟨e, S1, ho⟩
  · exact run_fnSD (E := fun _ _ _ _ => False) hF hr hbn hv Ps.never I rv (lend_sp st hw' (by rw [hw'.len]; exact hlen) rfl hb (fun e S' q => by rw [ho] at q; cases q) fun v H' p => p)
  · exact run_fnSD (E := fun _ => PoX (kx X Z) F H μ S e S1) hF hr hbn hv (er e S1 ho) I rv (lend_sp st hw' (by rw [hw'.len]; exact hlen) rfl hb (fun e' S' q => by rw [ho] at q; cases q; exact fun _ _ _ z => z) fun v H' p => p)
theorem snd_calL (C : Cok X M T Z lv) {f : Nat} {ds : List Df} {x : Str} {es : List Expr} {ol : Out (List W)} {p pos : Pos} (hg : glB X.env.scope x = true) (hf : M.fs f = some x) (hn : nmB x = true) (hst : es.all noStar = true) (hd : ∀ ws S1, ol = .ok ws S1 → M.df f ws.length = ds) (sl : SndL X (kx X Z) Γ S es ol) (h0 : es = [] → ol = .ok [] S) :
    SndE X (kx X Z) Γ S (.Call (.Name x p) es [] pos) (ol.bind (callLK T f ds)) := by
  intro hb σ F H μ rel st er
  obtain ⟨fa, hm, FF⟩ := C.fn f x hf
  refine we_callA (glB_gl hg) hm FF.kp (nmB_d hn).1 (star_he hst) ?_
  refine agw sl h0 hb rel st er fun ws S1 e1 F1 H1 μ1 vs g1 s1 r1 hb1 er1 => ?_
  rw [e1]
  refine CaW.mono (Q := PoO (kx X Z) F1 H1 μ1 S1 (callLK T f ds ws S1)) ?_ fun v H' q => PoO.back g1 q
  unfold callLK at hb1 er1 ⊢
  obtain ⟨fd, ps, hF, har, _, hbd⟩ := FF.ok
  obtain ⟨ds', h1, hne⟩ := callL_ne hb1
  have hlen := har _ _ hne
  have hds := hd ws S1 e1
  have hl2 : ws.length + (M.df f ws.length).length = ps.length := by
    rw [← hlen, List.length_map, lends_len h1, List.length_append, hds, dfs_map, List.length_map, List.length_map]
  obtain ⟨dvs, dd, hv, hbn, hrp⟩ := hbd _ hl2
  rw [hds] at hrp
  rw [dfs_map] at hb1 er1 ⊢
  exact caw_lendg hF har (C.room.mono (Nat.le_succ _)) hv hbn (hrp F1) s1 r1 hb1 er1
theorem snd_mtL (C : Cok X M T Z lv) {m : Str} {o : Expr} {oo : Out W} {es : List Expr} {fl : Sto → Out (List W)} {apos pos : Pos} (hu : noSuper o = true) (hst : es.all noStar = true) (hn : es.length < 30) (hl : (apos.endLine == pos.line) = true) (so : SndE X (kx X Z) Γ S o oo) (sl : ∀ S1, SndL X (kx X Z) Γ S1 es (fl S1)) (h0 : ∀ S1, es = [] → fl S1 = .ok [] S1) :
    SndE X (kx X Z) Γ S (.Call (.Attribute o m apos) es [] pos) (oo.bind (mthLE T m [] fl)) := by
  intro hb σ F H μ rel st er
  refine we_meth (attr_base hu) hl (any_star hst) hn (star_he hst) (so.th hb rel st er fun x S1 e1 F1 H1 μ1 v g1 s1 r1 hb1 er1 => ?_)
  obtain ⟨⟨c, l⟩, ex, hb2⟩ := opt_ne hb1
  obtain ⟨f, hf, hb3⟩ := opt_ne hb2
  obtain ⟨a, dx, fs, vs, rfl, ha, hfo, hv⟩ := obj_at s1 r1 ex
  have CF := C.clf (asc_ne (g := CInfo.mths) hf rfl)
  obtain ⟨nm, fa, hM, FF⟩ := CF.meth _ _ hf
  have hci : (kx X Z).ci c = T.ci c := by rw [show (kx X Z).ci = Z.ci from rfl, C.ci]
  have em : mthLE T m [] fl x S1 = (fl S1).bind (mthLK T f [] x) := by unfold mthLE; rw [ex]; simp only [opt_some]; rw [hf]; rfl
  refine ⟨a, dx, fs, Z.ca c, fa, rfl, ha, CF.cls, hM, hfo.no m (by rw [hci]; exact nm), ?_⟩
  rw [em] at er1
  refine agw (sl S1) (h0 S1) hb3 (rel.gr g1) s1 er1 fun ws S2 e2 F2 H2 μ2 us g2 s2 r2 hb4 er2 => ?_
  have ee : oo.bind (mthLE T m [] fl) = callL T f (x :: ws) S2 := by
    rw [e1]; show mthLE T m [] fl x S1 = _; rw [em, e2]; show callL T f (x :: (ws ++ dfs [])) S2 = _; rw [dfs_nil, List.append_nil]
  have e3 : mthLK T f [] x ws S2 = callL T f (x :: ws) S2 := by show callL T f (x :: (ws ++ dfs [])) S2 = _; rw [dfs_nil, List.append_nil]
  rw [e3] at hb4 er2
  rw [ee]
  obtain ⟨fd, ps, hF, har, h00, _⟩ := FF.ok
  have := caw_lendg (dl := []) (σ := σ) (ws := x :: ws) hF har (C.room.mono (Nat.le_succ _)) .nil h00 Rps.nil' s2 (RpWs.cons' (r1.gr g2) r2) (by rw [List.map_nil, List.append_nil]; exact hb4) (by rw [List.map_nil, List.append_nil]; exact er2)
  rw [List.map_nil, List.append_nil] at this
  exact this.mono fun v H' q => (PoO.back g2 q).back g1
/-! ### tests -/
theorem snd_te (C : Cok X M T Z lv) {oa : Out W} (hp : plainT a = true) (sa : SndE X (kx X Z) Γ S a oa) : SndT X (kx X Z) Γ S a (oa.bind (truW T)) := by
  intro hb σ F H μ rel st er
  refine wt_tru (plainT_of hp) (sa.th hb rel st er fun x S1 e1 F1 H1 μ1 v g1 s1 r1 hb1 er1 => ?_)
  rw [e1]
  intro pins s vv I rv
  exact thn (trw_truW C s1 r1 hb1 er1 pins s vv I rv) fun c s2 ⟨H2, I2, q⟩ => ⟨H2, I2, PoT.back g1 q⟩
theorem bool_pw {op : BoolOp} {vs : List Expr} {pos : Pos} : PW X (.BoolOp op vs pos) (WT X (.BoolOp op vs pos)) := ⟨fun _ pins s _ _ _ I h => h pins s I⟩
theorem snd_tand {rest : List Expr} {pos : Pos} {oa : Out Bool} {fb : Sto → Out Bool} (sa : SndT X (kx X Z) Γ S a oa) (sb : ∀ S1, SndT X (kx X Z) Γ S1 (.BoolOp .And (b :: rest) pos) (fb S1)) : SndT X (kx X Z) Γ S (.BoolOp .And (a :: b :: rest) pos) (oa.bind (ifE fb okF)) := by
  intro hb σ F H μ rel st er
  refine .of (PW.pt (pw_and WT.pt bool_pw)) (sa.th hb rel st er fun z S1 e1 F1 H1 μ1 g1 s1 hb1 er1 => ?_)
  rw [e1]
  cases z with
  | true => rw [if_pos rfl]; exact (sb S1 hb1 σ F1 H1 μ1 (rel.gr g1) s1 er1).mono fun v H' q => PoT.back g1 q
  | false => rw [if_neg (by decide)]; exact ⟨rfl, F1, μ1, g1, s1⟩
theorem snd_tor {rest : List Expr} {pos : Pos} {oa : Out Bool} {fb : Sto → Out Bool} (sa : SndT X (kx X Z) Γ S a oa) (sb : ∀ S1, SndT X (kx X Z) Γ S1 (.BoolOp .Or (b :: rest) pos) (fb S1)) : SndT X (kx X Z) Γ S (.BoolOp .Or (a :: b :: rest) pos) (oa.bind (ifE okT1 fb)) := by
  intro hb σ F H μ rel st er
  refine .of (PW.pt (pw_or WT.pt bool_pw)) (sa.th hb rel st er fun z S1 e1 F1 H1 μ1 g1 s1 hb1 er1 => ?_)
  rw [e1]
  cases z with
  | false => rw [if_neg (by decide)]; exact (sb S1 hb1 σ F1 H1 μ1 (rel.gr g1) s1 er1).mono fun v H' q => PoT.back g1 q
  | true => rw [if_pos rfl]; exact ⟨rfl, F1, μ1, g1, s1⟩
theorem snd_tand1 {pos : Pos} {oa : Out Bool} (sa : SndT X (kx X Z) Γ S a oa) : SndT X (kx X Z) Γ S (.BoolOp .And [a] pos) oa := fun hb σ F H μ rel st er => .of (PW.pt (pw_and1 WT.pt)) (sa hb σ F H μ rel st er)
theorem snd_tor1 {pos : Pos} {oa : Out Bool} (sa : SndT X (kx X Z) Γ S a oa) : SndT X (kx X Z) Γ S (.BoolOp .Or [a] pos) oa := fun hb σ F H μ rel st er => .of (PW.pt (pw_or1 WT.pt)) (sa hb σ F H μ rel st er)
theorem snd_tnot {pos : Pos} {oa : Out Bool} (sa : SndT X (kx X Z) Γ S a oa) : SndT X (kx X Z) Γ S (.UnaryOp .Not a pos) (oa.bind notT) := fun hb σ F H μ rel st er =>
  .of (pt_not WT.pt) (sa.th hb rel st er fun z S1 e1 F1 H1 μ1 g1 s1 hb1 er1 => by rw [e1]; exact ⟨rfl, F1, μ1, g1, s1⟩)
end
end NV

namespace NV
open PySem L2
open PyProof.Rows hiding St

/-! ### iterators -/
def Walks (k : Kx) (J : It) (F1 : Hp) (μ1 : Nat → Addr) (S1 : Sto) (w : W) : Prop := ∀ p, sqOf S1 w = some p → ∀ (i : Nat) (F H : Hp) (μ : Nat → Addr) (S : Sto), StoOk k F H μ S → Same F1 F → (∀ n, n < S1.length → μ n = μ1 n) → S1.length ≤ S.length → sqOf S w = some p →
  (∀ d, p.2[i]? = some d → J.go i H ∧ ∀ x H', J.yld i H x H' → ∃ F' μ', Gr F H μ S F' H' μ' S ∧ StoOk k F' H' μ' S ∧ RpW k F' μ' S.length d x) ∧ (i = p.2.length → J.stop i H)
def PoIt (k : Kx) (F H : Hp) (μ : Nat → Addr) (S : Sto) : Out W → It → Hp → Prop
  | .ok w S' => fun J H' => ∃ F' μ', Gr F H μ S F' H' μ' S' ∧ StoOk k F' H' μ' S' ∧ Walks k J F' μ' S' w
  | _ => fun _ _ => False
def WI (X : Cx) (tg iter : Expr) : TI := fun σ H R => ∀ (pins : List (Addr × Obj)) (s : Shared), Inv X pins σ H s →
  wpAny (model X.prog X.w) X.A (eval iter X.env) (fun v s1 => wpAny (model X.prog X.w) X.A (pyIter v) (PIE X pins σ tg R) X.xe s1) X.xe s
theorem WI.pi {X : Cx} {tg iter : Expr} : PI X tg iter (WI X tg iter) := ⟨fun pins s _ _ _ I h => h pins s I⟩
theorem WI.of {X : Cx} {tg iter : Expr} {wi : TI} {σ : St} {H : Hp} {R : It → Hp → Prop} (h : PI X tg iter wi) (q : wi σ H R) : WI X tg iter σ H R := fun pins s I => h.run pins s σ H R I q
def SndI (X : Cx) (k : Kx) (Γ : Env') (S : Sto) (iter : Expr) (o : Out W) : Prop := o ≠ .bad → ∀ tg, (enI iter = true → isTup tg = true) → ∀ σ F H μ, RelG k F μ S.length Γ σ → StoOk k F H μ S → ErrE X k σ F H μ S o → WI X tg iter σ H (PoIt k F H μ S o)
theorem sqOf_seq {S : Sto} {w : W} {p : Bool × List W} (h : sqOf S w = some p) : seqOf S w = some p.2 ∧ p.1 = (listOf S w).isSome := by
  unfold sqOf at h
  split at h
  · rename_i l hl
    cases h
    exact ⟨hl, rfl⟩
  · cases h
theorem seq_sqOf {S : Sto} {w : W} {l : List W} (h : seqOf S w = some l) : sqOf S w = some ((listOf S w).isSome, l) := by
  unfold sqOf
  rw [h]
/-- a tuple, for sure -/
theorem tup_at {k : Kx} {F H : Hp} {μ : Nat → Addr} {S : Sto} (st : StoOk k F H μ S) {w : W} {v : V} (h : RpW k F μ S.length w v) {l : List W} (e : seqOf S w = some l) (hn : listOf S w = none) : ∃ a vs, v = .ref a ∧ SqT k.K H a vs ∧ RpWs k F μ S.length l vs := by
  cases w with
  | r n =>
    obtain ⟨rfl, hN⟩ := h
    simp only [seqOf] at e
    split at e
    · rename_i l' hc
      simp only [listOf, hc] at hn
      cases hn
    · rename_i l' hc
      cases e
      obtain ⟨vs, h1, h2, h3⟩ := st.cell _ _ hc
      exact ⟨_, vs, rfl, .of h1, h3⟩
    · cases e
  | v d =>
    cases d with
    | tup m =>
      cases e
      simp only [RpW, Rp] at h
      obtain ⟨a, vs, rfl, h2, h3⟩ := h
      exact ⟨a, vs, rfl, sqT_mono st.sub h2, h3.ws⟩
    | lst m => simp only [listOf] at hn; cases hn
    | _ => cases e
section
variable {X : Cx} {M : Nm} {T : Tb} {Z : Zt} {lv : Nat} {σ : St} {F H : Hp} {μ : Nat → Addr} {S : Sto} {Γ : Env'} {a b : Expr}
theorem walks_list {w : W} {v : V} {p : Addr} (e : v = .ref p) (hw : RpW (kx X Z) F μ S.length w v) (hl : (listOf S w).isSome = true) : Walks (kx X Z) (Itl X.K p) F μ S w := by
  intro q hq i F' H' μ' S' st sF hm hn hq'
  obtain ⟨h1, h2⟩ := sqOf_seq hq
  obtain ⟨h1', h2'⟩ := sqOf_seq hq'
  rw [h2, hl] at h2'
  have hw' := hw.mono sF hm hn
  cases hl' : listOf S' w with
  | none => rw [hl'] at h2'; cases h2'
  | some l =>
    obtain ⟨p', vs, e', hs, hv⟩ := list_sq (X := X) (Z := Z) st hw' hl'
    rw [e] at e'
    cases e'
    have el : l = q.2 := by
      have : seqOf S' w = some l := by
        cases w with
        | r n => simp only [listOf] at hl'; simp only [seqOf]; split at hl' <;> rename_i hc <;> first | (cases hl'; rw [hc]) | cases hl'
        | v d => cases d <;> simp only [listOf] at hl' <;> first | (cases hl'; rfl) | cases hl'
      rw [this] at h1'
      cases h1'
      rfl
    subst el
    refine ⟨fun d hd => ?_, fun hi => ⟨vs, hs, by rw [hv.len]; omega⟩⟩
    obtain ⟨u, hu, hr⟩ := hv.get hd
    refine ⟨⟨vs, u, hs, hu⟩, fun x H'' y => ?_⟩
    obtain ⟨rfl, y⟩ := y
    have := y vs hs
    rw [hu] at this; cases this
    exact ⟨F', μ', .refl, st, hr⟩
theorem walks_tup {w : W} {v : V} {p : Addr} (e : v = .ref p) (hw : RpW (kx X Z) F μ S.length w v) (hl : listOf S w = none) : Walks (kx X Z) (Itt X.K p) F μ S w := by
  intro q hq i F' H' μ' S' st sF hm hn hq'
  obtain ⟨h1, h2⟩ := sqOf_seq hq
  obtain ⟨h1', h2'⟩ := sqOf_seq hq'
  rw [h2, hl] at h2'
  have hw' := hw.mono sF hm hn
  have hl' : listOf S' w = none := by
    cases hl' : listOf S' w with
    | none => rfl
    | some l => rw [hl'] at h2'; cases h2'
  obtain ⟨p', vs, e', hs, hv⟩ := tup_at st hw' h1' hl'
  rw [e] at e'
  cases e'
  refine ⟨fun d hd => ?_, fun hi => ⟨vs, hs, by rw [hv.len]; omega⟩⟩
  obtain ⟨u, hu, hr⟩ := hv.get hd
  refine ⟨⟨vs, u, hs, hu⟩, fun x H'' y => ?_⟩
  obtain ⟨rfl, y⟩ := y
  have := y vs hs
  rw [hu] at this; cases this
  exact ⟨F', μ', .refl, st, hr⟩
theorem walks_range {lo : Int} {n : Nat} : Walks (kx X Z) (Itr lo n) F μ S (.v (.tup (rangeD lo n))) := by
  intro q hq i F' H' μ' S' st sF hm hn hq'
  cases hq
  unfold rangeD
  refine ⟨fun d hd => ?_, fun hi => by rw [List.length_map, List.length_map, List.length_range] at hi; exact Nat.le_of_eq hi.symm⟩
  dsimp only at hd
  rw [List.map_map, List.getElem?_map] at hd
  obtain ⟨j, hj, rfl⟩ := Option.map_eq_some_iff.mp hd
  have hin : i < n := by
    have := (List.getElem?_eq_some_iff.mp hj).1
    simpa using this
  have hji : j = i := by
    rw [List.getElem?_range hin] at hj
    exact (Option.some.inj hj).symm
  subst hji
  refine ⟨hin, fun x H'' y => ?_⟩
  obtain ⟨rfl, rfl⟩ := y
  exact ⟨F', μ', .refl, st, by simp only [Function.comp, RpW, Rp]⟩
theorem walks_str {z : Str} : Walks (kx X Z) (Its z) F μ S (.v (.tup (z.cps.toList.map fun c => .str (chr1 c)))) := by
  intro q hq i F' H' μ' S' st sF hm hn hq'
  cases hq
  refine ⟨fun d hd => ?_, fun hi => by
    rw [List.length_map, List.length_map, Array.length_toList] at hi
    exact Nat.le_of_eq hi.symm⟩
  dsimp only at hd
  rw [List.map_map, List.getElem?_map] at hd
  obtain ⟨c, hc, rfl⟩ := Option.map_eq_some_iff.mp hd
  have hin : i < z.cps.size := by
    have := (List.getElem?_eq_some_iff.mp hc).1
    simpa using this
  refine ⟨hin, fun x H'' y => ?_⟩
  obtain ⟨rfl, c', hc', rfl⟩ := y
  have : c = c' := by
    rw [Array.getElem?_toList] at hc
    rw [hc] at hc'
    exact Option.some.inj hc'
  subst this
  exact ⟨F', μ', .refl, st, by simp only [Function.comp, RpW, Rp]; rfl⟩
theorem snd_is {oa : Out W} (sa : SndE X (kx X Z) Γ S a oa) : SndI X (kx X Z) Γ S a (oa.bind sgnK) := by
  intro hb tg ht σ F H μ rel st er
  refine .of (pi_str WE.pe) (sa.th hb rel st er fun x S1 e1 F1 H1 μ1 v g1 s1 r1 hb1 er1 => ?_)
  rw [e1]
  cases x with
  | r n => exact absurd rfl hb1
  | v d =>
    cases d with
    | str z =>
      obtain ⟨c, _⟩ := need_ne (show need (z.length ≤ sizeLine) _ ≠ .bad from hb1)
      simp only [RpW, Rp] at r1
      refine ⟨z, r1, ?_⟩
      rw [show (Out.ok (W.v (.str z)) S1).bind sgnK = okD S1 (.tup (z.cps.toList.map fun c => .str (chr1 c))) from need_pos c]
      exact ⟨F1, μ1, g1, s1, walks_str⟩
    | _ => exact absurd rfl hb1
theorem snd_ie {oa : Out W} (sa : SndE X (kx X Z) Γ S a oa) : SndI X (kx X Z) Γ S a (oa.bind seqK) := by
  intro hb tg ht σ F H μ rel st er
  cases oa with
  | bad => exact absurd rfl hb
  | err e S1 =>
    refine .of (pi_list WE.pe) ?_
    exact (sa (by simp) σ F H μ rel st (fun e' S' q => by cases q; exact er e S1 rfl)).mono fun v H1 h => h.elim
  | ok x S1 =>
    by_cases hstr : ∃ z, x = .v (.str z)
    · obtain ⟨z, rfl⟩ := hstr
      exact snd_is sa hb tg ht σ F H μ rel st er
    have ek : seqK x S1 = opt (seqOf S1 x) fun _ => Out.ok x S1 := by
      cases x with
      | r n => rfl
      | v d => cases d <;> first | rfl | exact absurd ⟨_, rfl⟩ hstr
    obtain ⟨l, hl, _⟩ := opt_ne (show (opt (seqOf S1 x) fun _ => Out.ok x S1) ≠ .bad from by rw [← ek]; exact hb)
    have e0 : (Out.ok x S1).bind seqK = .ok x S1 := by show seqK x S1 = _; rw [ek, hl]; rfl
    rw [e0]
    cases hls : listOf S1 x with
    | some m =>
      refine .of (pi_list WE.pe) ((sa (by simp) σ F H μ rel st .ok).mono fun v H1 ⟨F1, μ1, g, s1, r⟩ => ?_)
      obtain ⟨p, vs, e, hs, hv⟩ := list_sq s1 r hls
      exact ⟨p, e, ⟨vs, hs⟩, F1, μ1, g, s1, walks_list e r (by rw [hls]; rfl)⟩
    | none =>
      refine .of (pi_tup WE.pe) ((sa (by simp) σ F H μ rel st .ok).mono fun v H1 ⟨F1, μ1, g, s1, r⟩ => ?_)
      obtain ⟨p, vs, e, hs, hv⟩ := tup_at s1 r hl hls
      exact ⟨p, e, ⟨vs, hs⟩, F1, μ1, g, s1, walks_tup e r hls⟩
theorem snd_ir1 (C : Cok X M T Z lv) {oa : Out W} {p pos : Pos} (hg : glB X.env.scope "range" = true) (hs : noStar a = true) (sa : SndE X (kx X Z) Γ S a oa) : SndI X (kx X Z) Γ S (.Call (.Name "range" p) [a] [] pos) (oa.bind r1K) := by
  intro hb tg ht σ F H μ rel st er
  have se : starEach [a] X.env = [(false, eval a X.env)] := starEach_cons hs
  refine .of (pi_range1 (glB_gl hg) (C.blt _ (by decide +kernel)) (pa_cons WE.pe pa_nil se) se) (sa.th hb rel st er fun x S1 e1 F1 H1 μ1 v g1 s1 r1 hb1 er1 => ?_)
  rw [e1]
  cases x with
  | r n => exact absurd rfl hb1
  | v d =>
    cases d with
    | int n =>
      obtain ⟨c, _⟩ := need_ne (show need (-(2 ^ 62) ≤ n ∧ n < 2 ^ 62) _ ≠ .bad from hb1)
      simp only [RpW, Rp] at r1
      subst r1
      refine ⟨n, rfl, c.1, c.2, ?_⟩
      rw [show (Out.ok (W.v (.int n)) S1).bind r1K = okD S1 (.tup (rangeD 0 n.toNat)) from need_pos c]
      exact ⟨F1, μ1, g1, s1, walks_range⟩
    | _ => exact absurd rfl hb1
theorem snd_ir2 (C : Cok X M T Z lv) {oa : Out W} {fb : Sto → Out W} {p pos : Pos} (hg : glB X.env.scope "range" = true) (hs : noStar a = true) (hs2 : noStar b = true) (sa : SndE X (kx X Z) Γ S a oa) (sb : ∀ S1, SndE X (kx X Z) Γ S1 b (fb S1)) : SndI X (kx X Z) Γ S (.Call (.Name "range" p) [a, b] [] pos) (oa.bind (two fb r2K)) := by
  intro hb tg ht σ F H μ rel st er
  have sb' : starEach [b] X.env = [(false, eval b X.env)] := starEach_cons hs2
  have se : starEach [a, b] X.env = [(false, eval a X.env), (false, eval b X.env)] := by rw [starEach_cons hs, sb']
  refine .of (pi_range2 (glB_gl hg) (C.blt _ (by decide +kernel)) (pa_cons WE.pe (pa_cons WE.pe pa_nil sb') (starEach_cons hs)) se sb') (sa.th hb rel st er fun x S1 e1 F1 H1 μ1 v g1 s1 r1 hb1 er1 => (sb S1).th hb1 (rel.gr g1) s1 er1 fun y S2 e2 F2 H2 μ2 u g2 s2 r2 hb2 er2 => ?_)
  simp only [e1, e2, Out.bind_ok, two]
  replace r1 := r1.gr g2
  unfold r2K at hb2 ⊢
  split at hb2
  · rename_i lo hi
    obtain ⟨c, _⟩ := need_ne hb2
    simp only [RpW, Rp] at r1 r2
    subst r1 r2
    refine ⟨lo, hi, rfl, ⟨c.1.1, c.1.2, c.2.1, c.2.2⟩, ?_⟩
    rw [need_pos c]
    exact ⟨F2, μ2, g1.trans g2, s2, walks_range⟩
  · exact absurd rfl hb2
theorem walks_enum {q : Addr} {l : List D} {vs : List V} (h2 : F q = some (.lst vs)) (h3 : Rps (kx X Z) F l vs) : Walks (kx X Z) (Ite X.K q) F μ S (.v (.tup (enumD l))) := by
  intro pp hq i F' H' μ' S' st sF hm hn hq'
  cases hq
  have hH : H' q = some (.lst vs) := st.sub _ _ (sF _ _ h2)
  have h3' := Rps.mono sF l h3
  refine ⟨fun d hd => ?_, fun hi => ⟨vs, .of hH, ?_⟩⟩
  · dsimp only at hd
    rw [List.getElem?_map] at hd
    obtain ⟨dd, hdd, rfl⟩ := Option.map_eq_some_iff.mp hd
    unfold enumD at hdd
    rw [List.getElem?_map] at hdd
    obtain ⟨pq, hpq, rfl⟩ := Option.map_eq_some_iff.mp hdd
    rw [List.getElem?_zipIdx] at hpq
    obtain ⟨x, hx, rfl⟩ := Option.map_eq_some_iff.mp hpq
    obtain ⟨u, hu, hr⟩ := h3'.get hx
    refine ⟨⟨vs, u, .of hH, hu⟩, fun y H'' yy => ?_⟩
    obtain ⟨T, x', rfl, hT, rfl, hxs⟩ := yy
    have hxx := hxs vs (.of hH)
    rw [hu] at hxx; cases hxx
    rw [Nat.zero_add]
    exact PoW.newT st (l := [.int (i : Nat), x]) (vs := [.int (i : Nat), u]) (Rps.cons' (by unfold Rp; rfl) (Rps.cons' hr Rps.nil')) T hT
  · dsimp only at hi
    rw [List.length_map] at hi
    unfold enumD at hi
    rw [List.length_map, List.length_zipIdx, ← h3.len] at hi
    exact Nat.le_of_eq hi.symm
theorem snd_ien (C : Cok X M T Z lv) {oa : Out W} {p pos : Pos} (hg : glB X.env.scope "enumerate" = true) (hs : noStar a = true) (sa : SndE X (kx X Z) Γ S a oa) : SndI X (kx X Z) Γ S (.Call (.Name "enumerate" p) [a] [] pos) (oa.bind enK) := by
  intro hb tg ht σ F H μ rel st er
  have se : starEach [a] X.env = [(false, eval a X.env)] := starEach_cons hs
  have ht := ht (by show decide (("enumerate" : Str) = ("enumerate" : Str)) = true; exact decide_eq_true rfl)
  cases tg with
  | Tuple elts kk tpos =>
    refine .of (pi_enum (glB_gl hg) (C.blt _ (by decide +kernel)) (pa_cons WE.pe pa_nil se) se) (sa.th hb rel st er fun x S1 e1 F1 H1 μ1 v g1 s1 r1 hb1 er1 => ?_)
    rw [e1]
    cases x with
    | r n => exact absurd rfl hb1
    | v d =>
      cases d with
      | lst l =>
        simp only [RpW, Rp] at r1
        obtain ⟨q, vs, rfl, h2, h3⟩ := r1
        exact ⟨q, vs, rfl, .of (s1.sub _ _ h2), F1, μ1, g1, s1, walks_enum h2 h3⟩
      | _ => exact absurd rfl hb1
  | _ => cases ht
/-! ### comprehensions -/
theorem StoOk.poke {k : Kx} (s : StoOk k F H μ S) {p : Addr} (fp : F p = none) (np : ∀ (m : Nat) (c : Cell), S[m]? = some c → c ≠ .dead → μ m ≠ p) (o : HO) : StoOk k F (upd H p o) μ S :=
  ⟨fun b u q => by rw [upd_ne (ne_of_none q fp)]; exact s.sub _ _ q, fun n c h => (s.cell n c h).mono (fun d => upd_ne (np n c h d)) (Same.refl _) (fun d => (s.cell n c h).fnone d) (fun _ _ => rfl) (Nat.le_refl _), s.inj⟩
theorem Gr.poke {F' H' : Hp} {μ' : Nat → Addr} {S' : Sto} (g : Gr F H μ S F' H' μ' S') {p : Addr} (hp : H p = none) (o : HO) : Gr F H μ S F' (upd H' p o) μ' S' :=
  ⟨fun a h => by
    by_cases e : a = p
    · subst e; exact hp
    · rw [upd_ne e] at h; exact g.dom a h, fun a u h nm => by rw [upd_ne (ne_of_none h hp)]; exact g.h a u h nm, g.f, g.new, g.len, g.mu, g.dd, g.fresh⟩
theorem lcRun_cons {f : W → Out (Option W)} {d : W} {r out : List W} {S' : Sto} (h : lcRun f (d :: r) = .ok out S') : ∃ o l S1 S2, f d = .ok o S1 ∧ lcRun f r = .ok l S2 ∧ out = (match o with | some x => x :: l | none => l) := by
  unfold lcRun at h
  cases hf : f d with
  | bad => rw [hf] at h; cases h
  | err e S1 => rw [hf] at h; cases h
  | ok o S1 =>
    rw [hf] at h
    cases o with
    | some x =>
      obtain ⟨l, S2, h1, h2⟩ := Out.bind_ok' h
      cases h2
      exact ⟨_, l, S1, _, rfl, h1, rfl⟩
    | none => exact ⟨_, out, S1, S', rfl, h, rfl⟩
theorem lc_read {k : Kx} {tg iter : Expr} {gt : TG} {vs : List Nat} {stp : W → Env' → Option Env'} {f : W → Out (Option W)} {w : W} {S1 S0 : Sto} {l out : List W} {tt : TT} {te : TE} {Q : VK} (rel : RelG k F μ S.length Γ σ)
    (wi : WI X tg iter σ H (PoIt k F H μ S (.ok w S1))) (hl : seqOf S1 w = some l) (hrun : lcRun f l = .ok out S0) (hz : l.length ≤ sizeLine)
    (hg : ∀ d Γ', stp d Γ = some Γ' → ∀ x F H μ, RelG k F μ S1.length Γ σ → StoOk k F H μ S1 → RpW k F μ S1.length d x → ∀ Q : St → Hp → Prop, (∀ σ', RelG k F μ S1.length Γ' σ' → wipe σ' vs = wipe σ vs → Q σ' H) → gt x (wipe σ vs) H Q)
    (hstep : ∀ d o S', f d = .ok o S' → ∃ Γ', stp d Γ = some Γ' ∧ ∀ σ2 F2 H2 μ2, RelG k F2 μ2 S1.length Γ' σ2 → StoOk k F2 H2 μ2 S1 → ∀ (Yes : V → Hp → Prop) (No : Hp → Prop),
      (∀ wy, o = some wy → ∀ y F4 H4 μ4, Gr F2 H2 μ2 S1 F4 H4 μ4 S1 → StoOk k F4 H4 μ4 S1 → RpW k F4 μ4 S1.length wy y → Yes y H4) → (o = none → ∀ F3 H3 μ3, Gr F2 H2 μ2 S1 F3 H3 μ3 S1 → StoOk k F3 H3 μ3 S1 → No H3) →
      tt σ2 H2 (fun b H3 => if b = true then te σ2 H3 Yes else No H3))
    (hQ : ∀ v H', PoW k F H μ S (.r S1.length) (S1 ++ [.lst out]) v H' → Q v H') : tLc (WI X tg iter) gt tt te vs σ H Q := by
  show WI X tg iter σ H _
  intro pins s I
  refine thn (wi pins s I) fun v s1 h1 => thn h1 fun itv s2 h2 => ?_
  obtain ⟨it, fp, tn, J, H1, e1, I1, T1, t1, f1, F1, μ1, g1, st1, wk⟩ := h2
  have wk := wk _ (seq_sqOf hl)
  refine ⟨it, fp, tn, J, H1, e1, I1, T1, t1, f1, fun D hD => ?_⟩
  have hHD : H D = none := g1.dom D hD
  have live : ∀ (m : Nat) (c : Cell), S1[m]? = some c → c ≠ .dead → μ1 m ≠ D := fun m c hc hd e => by
    obtain ⟨o, ho⟩ := (st1.cell m c hc).some hd
    rw [e, hD] at ho; cases ho
  have liveM : ∀ μj : Nat → Addr, (∀ n, n < S1.length → μj n = μ1 n) → ∀ (m : Nat) (c : Cell), S1[m]? = some c → c ≠ .dead → μj m ≠ D := fun μj hm m c hc hd => by
    rw [hm m (List.getElem?_eq_some_iff.mp hc).1]; exact live m c hc hd
  have nW : ∀ μj : Nat → Addr, (∀ n, n < S1.length → μj n = μ1 n) → ¬ Wr μj S1 D := fun μj hm ⟨m, c, h1, h2, h3⟩ => liveM μj hm m c h1 h2 h3
  refine ⟨fun j m H' => m = l.length - j ∧ j ≤ l.length ∧ ∃ Fj μj acc out1 out2 S2, Gr F H μ S Fj H' μj S1 ∧ StoOk k Fj H' μj S1 ∧ Same F1 Fj ∧ (∀ n, n < S1.length → μj n = μ1 n) ∧ Fj D = none ∧ H' D = some (.lst acc) ∧ RpWs k Fj μj S1.length out1 acc ∧ out1.length ≤ j ∧ lcRun f (l.drop j) = .ok out2 S2 ∧ out = out1 ++ out2, ⟨l.length, ?_⟩, ?_⟩
  · have fD : F1 D = none := st1.sub.free hD
    exact ⟨by simp, Nat.zero_le _, F1, μ1, [], [], out, S0, g1.poke hHD _, st1.poke fD live _, Same.refl _, fun _ _ => rfl, fD, upd_same, RpWs.nil', Nat.le_refl _, by simpa using hrun, rfl⟩
  · rintro j m H' ⟨rfl, hj, Fj, μj, acc, out1, out2, S2, gj, stj, sj, hmj, fj, hacc, racc, lacc, hr2, hout⟩
    obtain ⟨wk1, wk2⟩ := wk j Fj H' μj S1 stj sj hmj (Nat.le_refl _) (seq_sqOf hl)
    by_cases hlt : j < l.length
    · have hd : l[j]? = some l[j] := List.getElem?_eq_getElem hlt
      obtain ⟨go, yl⟩ := wk1 _ hd
      rw [List.drop_eq_getElem_cons hlt] at hr2
      obtain ⟨o, l2, S3, S4, ho, hl2, rfl⟩ := lcRun_cons hr2
      refine .inr ⟨go, fun H'' => ∃ F' μ' acc' out1', Gr F H μ S F' H'' μ' S1 ∧ StoOk k F' H'' μ' S1 ∧ Same F1 F' ∧ (∀ n, n < S1.length → μ' n = μ1 n) ∧ F' D = none ∧ H'' D = some (.lst acc') ∧ RpWs k F' μ' S1.length out1' acc' ∧ out1'.length ≤ j + 1 ∧ out = out1' ++ l2,
        fun H'' ⟨F', μ', acc', out1', a1, a2, a3, a4, a5, a6, a7, a8, a9⟩ => ⟨l.length - (j + 1), by omega, rfl, hlt, F', μ', acc', out1', l2, S4, a1, a2, a3, a4, a5, a6, a7, a8, hl2, a9⟩, fun x H2 y => ?_⟩
      obtain ⟨Fy, μy, gy, sty, hx⟩ := yl x H2 y
      have hmy : ∀ n, n < S1.length → μy n = μ1 n := fun n hn => by rw [gy.mu n hn]; exact hmj n hn
      have keep : ∀ {F4 H4 : Hp} {μ4 : Nat → Addr}, Gr Fj H' μj S1 F4 H4 μ4 S1 → H4 D = some (.lst acc) ∧ F4 D = none ∧ (∀ n, n < S1.length → μ4 n = μ1 n) := fun {F4 H4 μ4} g4 => by
        refine ⟨g4.h _ _ hacc (nW μj hmj), ?_, fun n hn => by rw [g4.mu n hn]; exact hmj n hn⟩
        cases q : F4 D with
        | none => rfl
        | some u =>
          rcases g4.new _ _ q with z | z | z
          · rw [fj] at z; cases z
          · rw [hacc] at z; cases z
          · exact absurd z (nW μj hmj)
      obtain ⟨Γ', hΓ', hst⟩ := hstep _ o S3 ho
      refine hg _ Γ' hΓ' x Fy H2 μy ((rel.gr gj).gr gy) sty hx _ fun σ2 rel2 hw2 => ⟨hw2, ?_⟩
      refine hst σ2 Fy H2 μy rel2 sty _ _ (fun dy ey y' F4 H4 μ4 g4' st4 hy => ?_) (fun en F3 H3 μ3 g3' st3 => ?_)
      · subst ey
        have g4 := gy.trans g4'
        obtain ⟨e4, f4, m4⟩ := keep g4
        have G := gj.trans g4
        refine ⟨acc, e4, ?_, F4, μ4, acc ++ [y'], out1 ++ [dy], G.poke hHD _, st4.poke f4 (liveM μ4 m4) _, sj.trans g4.f, m4, f4, upd_same, (racc.mono g4.f g4.mu g4.len).app (.one hy), ?_, ?_⟩
        · rw [racc.len]; omega
        · simp; omega
        · rw [hout]; simp
      · subst en
        have g3 := gy.trans g3'
        obtain ⟨e3, f3, m3⟩ := keep g3
        exact ⟨F3, μ3, acc, out1, gj.trans g3, st3, sj.trans g3.f, m3, f3, e3, racc.mono g3.f g3.mu g3.len, by omega, hout⟩
    · have ej : j = l.length := by omega
      subst ej
      refine .inl ⟨wk2 rfl, hQ _ _ ?_⟩
      rw [List.drop_length] at hr2
      cases hr2
      rw [List.append_nil] at hout
      subst hout
      obtain ⟨g2, st2⟩ := adopt gj stj hHD (liveM μj hmj) (c := .lst out) ⟨acc, hacc, fj, mu1_mono racc⟩
      exact ⟨Fj, _, g2, st2, by rw [mu1_same], by simp⟩
/-- the context of a comprehension's block -/
theorem Cok.blk (C : Cok X M T Z lv) {s : Shared} {H : Hp} {scope : Scope} {cl : List (Str × Addr)} {Cc : Addr} {fp : List Addr} (hk : scope.kind = .function) : Cok (X.blk s H scope (compEnvC scope cl Cc X.env) fp) M T Z lv :=
  ⟨C.room, C.nd, C.hN, C.calm, hk, PassesOwn.never, C.ci, C.glo, fun i x h => let ⟨fa, h1, h2⟩ := C.fn i x h; ⟨fa, h1, ⟨h2.ok, h2.kp⟩⟩, fun c => (C.cl c).imp (fun h => h) fun h => ⟨h.cls, h.nd, h.few, h.self, h.tyo, h.noat, fun m f e => let ⟨q, fa, h1, h2⟩ := h.meth m f e; ⟨q, fa, h1, ⟨h2.ok, h2.kp⟩⟩, fun m f e => let ⟨p, fa, h1, h2⟩ := h.prop m f e; ⟨p, fa, h1, ⟨h2.ok, h2.kp⟩⟩, h.con⟩,
    C.nm, fun c f x h1 h2 => let ⟨fa, q1, q2⟩ := C.ini c f x h1 h2; ⟨fa, q1, ⟨q2.ok, q2.kp⟩⟩, C.sub, C.nos, C.isb, C.blt⟩
theorem blk_scope {s : Shared} {H : Hp} {scope : Scope} {cl : List (Str × Addr)} {Cc : Addr} {fp : List Addr} : (X.blk s H scope (compEnvC scope cl Cc X.env) fp).env.scope = relS scope X.env.scope := rfl
theorem loc_rel {scope sc : Scope} {x : Str} (h : Loc scope x) : Loc (relS scope sc) x ∧ ((scope.names.lookup x == some .cell) = true ∨ (relS scope sc).names.lookup x = some .local) := by
  rcases h with h | h
  · have q : (relS scope sc).names.lookup x = some .local := lookup_relS_keep (sc := sc) (by decide) h
    exact ⟨.inl q, .inr q⟩
  · have q : (relS scope sc).names.lookup x = some .cell := lookup_relS_keep (sc := sc) (by decide) h
    exact ⟨.inr q, .inl (by rw [h]; rfl)⟩
theorem blk_pg (C : Cok X M T Z lv) {x : Str} {pos : Pos} {i : Nat} {scope : Scope} (hi : M.N[i]? = some x) (hl : locB scope x = true) (s : Shared) (H : Hp) (Cc : Addr) (cl : List (Str × Addr)) (fp : List Addr) : PG (X.blk s H scope (compEnvC scope cl Cc X.env) fp) (.Name x pos) (gName i) := by
  obtain ⟨h1, h2⟩ := loc_rel (sc := X.env.scope) (locB_loc hl)
  exact pg_name C.nd (by rw [← C.hN] at hi; exact hi) h1 h2
/-- the readings that serve every block -/
def teB (X : Cx) (scope : Scope) (e : Expr) : TE := fun σ H Q => ∀ (s : Shared) (H0 : Hp) (Cc : Addr) (cl : List (Str × Addr)) (fp : List Addr), WE (X.blk s H0 scope (compEnvC scope cl Cc X.env) fp) e σ H Q
def ttB (X : Cx) (scope : Scope) (e : Expr) : TT := fun σ H Q => ∀ (s : Shared) (H0 : Hp) (Cc : Addr) (cl : List (Str × Addr)) (fp : List Addr), WT (X.blk s H0 scope (compEnvC scope cl Cc X.env) fp) e σ H Q
theorem teB_pe {scope : Scope} {e : Expr} (s : Shared) (H0 : Hp) (Cc : Addr) (cl : List (Str × Addr)) (fp : List Addr) : PE (X.blk s H0 scope (compEnvC scope cl Cc X.env) fp) e (teB X scope e) := ⟨fun pins s' _ _ _ I h => h s H0 Cc cl fp pins s' I⟩
theorem ttB_pt {scope : Scope} {e : Expr} (s : Shared) (H0 : Hp) (Cc : Addr) (cl : List (Str × Addr)) (fp : List Addr) : PT (X.blk s H0 scope (compEnvC scope cl Cc X.env) fp) e (ttB X scope e) := ⟨fun pins s' _ _ _ I h => h s H0 Cc cl fp pins s' I⟩
/-- soundness of an element in every block -/
def SndB (X : Cx) (Z : Zt) (scope : Scope) (Γ : Env') (S : Sto) (e : Expr) (o : Out W) : Prop := ∀ (s : Shared) (H0 : Hp) (Cc : Addr) (cl : List (Str × Addr)) (fp : List Addr), SndE (X.blk s H0 scope (compEnvC scope cl Cc X.env) fp) (kx X Z) Γ S e o
def SndBT (X : Cx) (Z : Zt) (scope : Scope) (Γ : Env') (S : Sto) (e : Expr) (o : Out Bool) : Prop := ∀ (s : Shared) (H0 : Hp) (Cc : Addr) (cl : List (Str × Addr)) (fp : List Addr), SndT (X.blk s H0 scope (compEnvC scope cl Cc X.env) fp) (kx X Z) Γ S e o
theorem need_okC {α : Type} {c : Prop} {i : Decidable c} {r : Out α} {a : α} {S : Sto} (h : @need α c i r = .ok a S) : c ∧ r = .ok a S := need_ok h
theorem someK_ok {w : W} {S S1 S2 : Sto} {o : Option W} (h : someK S w S1 = .ok o S2) : S1 = S ∧ o = some w := by
  unfold someK at h
  obtain ⟨h1, h2⟩ := need_okC h
  cases h2
  exact ⟨h1, rfl⟩
theorem lc_elt {scope : Scope} {Γ : Env'} {elt : Expr} {oe : Out W} {o : Option W} {S' : Sto} (se : SndB X Z scope Γ S elt oe) (h : oe.bind (someK S) = .ok o S') {σ2 : St} (rel : RelG (kx X Z) F μ S.length Γ σ2) (st : StoOk (kx X Z) F H μ S) {Yes : V → Hp → Prop} (hy : ∀ wy, o = some wy → ∀ y F4 H4 μ4, Gr F H μ S F4 H4 μ4 S → StoOk (kx X Z) F4 H4 μ4 S → RpW (kx X Z) F4 μ4 S.length wy y → Yes y H4) :
    teB X scope elt σ2 H Yes := by
  obtain ⟨w, S1, rfl, h⟩ := Out.bind_ok' h
  obtain ⟨rfl, rfl⟩ := someK_ok h
  intro s H0 Cc cl fp
  exact (se s H0 Cc cl fp (by simp) σ2 F H μ rel st .ok).mono fun v H' ⟨F', μ', g, s', r⟩ => hy w rfl v F' H' μ' g s' r
theorem lcE_ok {f : W → Out (Option W)} {l : List W} {w : W} {S' : Sto} (h : lcE f S l = .ok w S') : ∃ out S0, lcRun f l = .ok out S0 ∧ l.length ≤ sizeLine ∧ w = .r S.length ∧ S' = S ++ [.lst out] := by
  unfold lcE at h
  obtain ⟨out, S0, h1, h2⟩ := Out.bind_ok' h
  obtain ⟨c, h2⟩ := need_ok h2
  obtain ⟨rfl, rfl⟩ := alc_ok h2
  exact ⟨out, S0, h1, c, rfl, rfl⟩
theorem lcRun_noerr {f : W → Out (Option W)} : ∀ {l : List W} {e : Er} {S' : Sto}, lcRun f l ≠ .err e S'
  | [], e, S', h => by cases h
  | d :: r, e, S', h => by
    unfold lcRun at h
    split at h
    · rcases Out.bind_err' h with h | ⟨a, S, h1, h2⟩
      · exact lcRun_noerr h
      · cases h2
    · exact lcRun_noerr h
    · cases h
theorem lcE_noerr {f : W → Out (Option W)} {l : List W} {e : Er} {S' : Sto} (h : lcE f S l = .err e S') : False := by
  unfold lcE at h
  rcases Out.bind_err' h with h | ⟨a, S, h1, h2⟩
  · exact lcRun_noerr h
  · obtain ⟨_, h2⟩ := need_err h2
    cases h2
/-- a comprehension's outcome -/
theorem lc_gen {tg iter : Expr} {gt : TG} {vs : List Nat} {stp : W → Env' → Option Env'} {oi : Out W} {g : W → Sto → W → Out (Option W)} {tt : TT} {te : TE} (si : SndI X (kx X Z) Γ S iter oi) (hb : oi.bind (fun w S1 => opt (seqOf S1 w) (lcE (g w S1) S1)) ≠ .bad) (rel : RelG (kx X Z) F μ S.length Γ σ) (st : StoOk (kx X Z) F H μ S) (er : ErrE X (kx X Z) σ F H μ S (oi.bind (fun w S1 => opt (seqOf S1 w) (lcE (g w S1) S1))))
    (ht : enI iter = true → isTup tg = true) (hg : ∀ (S1 : Sto) d Γ', stp d Γ = some Γ' → ∀ x F H μ, RelG (kx X Z) F μ S1.length Γ σ → StoOk (kx X Z) F H μ S1 → RpW (kx X Z) F μ S1.length d x → ∀ Q : St → Hp → Prop, (∀ σ', RelG (kx X Z) F μ S1.length Γ' σ' → wipe σ' vs = wipe σ vs → Q σ' H) → gt x (wipe σ vs) H Q)
    (hstep : ∀ w S1 d o S', g w S1 d = .ok o S' → ∃ Γ', stp d Γ = some Γ' ∧ ∀ σ2 F2 H2 μ2, RelG (kx X Z) F2 μ2 S1.length Γ' σ2 → StoOk (kx X Z) F2 H2 μ2 S1 → ∀ (Yes : V → Hp → Prop) (No : Hp → Prop),
      (∀ wy, o = some wy → ∀ y F4 H4 μ4, Gr F2 H2 μ2 S1 F4 H4 μ4 S1 → StoOk (kx X Z) F4 H4 μ4 S1 → RpW (kx X Z) F4 μ4 S1.length wy y → Yes y H4) → (o = none → ∀ F3 H3 μ3, Gr F2 H2 μ2 S1 F3 H3 μ3 S1 → StoOk (kx X Z) F3 H3 μ3 S1 → No H3) →
      tt σ2 H2 (fun b H3 => if b = true then te σ2 H3 Yes else No H3)) {Q : VK} (hQ : ∀ v H', PoO (kx X Z) F H μ S (oi.bind (fun w S1 => opt (seqOf S1 w) (lcE (g w S1) S1))) v H' → Q v H') :
    tLc (WI X tg iter) gt tt te vs σ H Q := by
  cases oi with
  | bad => exact absurd rfl hb
  | err e S1 =>
    intro pins s I
    refine thn (si (by simp) tg ht σ F H μ rel st (fun e' S' q => by cases q; exact er e S1 rfl) pins s I) fun v s1 h1 => thn h1 fun itv s2 h2 => ?_
    obtain ⟨it, fp, tn, J, H1, e1, I1, T1, t1, f1, z⟩ := h2
    exact z.elim
  | ok w S1 =>
    have hb : opt (seqOf S1 w) (lcE (g w S1) S1) ≠ .bad := hb
    obtain ⟨l, hl, hb⟩ := opt_ne hb
    have e0 : (Out.ok w S1).bind (fun w S1 => opt (seqOf S1 w) (lcE (g w S1) S1)) = lcE (g w S1) S1 l := by show opt (seqOf S1 w) _ = _; rw [hl]; rfl
    rw [e0] at hQ
    rcases Out.ne_cases hb with ⟨w', S2, ho⟩ | ⟨e, S2, ho⟩
    · obtain ⟨out, S0, h1, h2, rfl, rfl⟩ := lcE_ok ho
      rw [ho] at hQ
      exact lc_read rel (si (by simp) tg ht σ F H μ rel st .ok) hl h1 h2 (hg S1) (fun d o S' h => hstep w S1 d o S' h) hQ
    · exact (lcE_noerr ho).elim
theorem wipe_get {σ : St} {j : Nat} : ∀ {vs : List Nat}, (wipe σ vs)[j]? = if j ∈ vs then (σ[j]?).map (fun _ => none) else σ[j]?
  | [] => by simp [wipe]
  | v :: vs => by
    unfold wipe
    by_cases hv : v = j
    · subst hv
      rw [if_pos (by simp)]
      by_cases hl : v < (wipe σ vs).length
      · rw [List.getElem?_set_self hl]
        rw [wipe_length] at hl
        rw [List.getElem?_eq_getElem hl]; rfl
      · rw [List.getElem?_eq_none (by simpa using hl)]
        rw [wipe_length] at hl
        rw [List.getElem?_eq_none (by omega)]; rfl
    · rw [List.getElem?_set_ne hv, wipe_get]
      have : (j ∈ v :: vs) ↔ j ∈ vs := ⟨fun z => (List.mem_cons.mp z).resolve_left fun e => hv e.symm, fun z => List.mem_cons_of_mem _ z⟩
      by_cases hj : j ∈ vs
      · rw [if_pos hj, if_pos (this.mpr hj)]
      · rw [if_neg hj, if_neg fun z => hj (this.mp z)]
theorem wipe_set {σ : St} {i : Nat} {o : Option V} {vs : List Nat} (h : i ∈ vs) : wipe (σ.set i o) vs = wipe σ vs := by
  refine List.ext_getElem? fun j => ?_
  rw [wipe_get, wipe_get]
  by_cases hj : j ∈ vs
  · rw [if_pos hj, if_pos hj]
    by_cases e : i = j
    · subst e
      by_cases hl : i < σ.length
      · rw [List.getElem?_set_self hl, List.getElem?_eq_getElem hl]; rfl
      · rw [List.getElem?_eq_none (by simpa using hl), List.getElem?_eq_none (by omega)]
    · rw [List.getElem?_set_ne e]
  · rw [if_neg hj, if_neg hj, List.getElem?_set_ne fun (e : i = j) => hj (by rw [← e]; exact h)]
theorem wipe_wipe {σ : St} {vs : List Nat} : wipe (wipe σ vs) vs = wipe σ vs := by
  refine List.ext_getElem? fun j => ?_
  rw [wipe_get, wipe_get]
  by_cases hj : j ∈ vs
  · rw [if_pos hj, if_pos hj]
    cases σ[j]? <;> rfl
  · rw [if_neg hj, if_neg hj]
def gsN : List Nat → TGs
  | [] => gNil
  | i :: is => gCons (gName i) (gsN is)
theorem gsN_run {k : Kx} {F : Hp} {μ : Nat → Addr} {N : Nat} : ∀ {is : List Nat} {l : List W} {vs : List V} {Γ : Env'} {σ : St} {H : Hp} {Q : St → Hp → Prop}, l.length = is.length → RelG k F μ N Γ σ → RpWs k F μ N l vs → (∀ σ', RelG k F μ N (setAll is l Γ) σ' → Q σ' H) → gsN is vs σ H Q
  | [], l, vs, Γ, σ, H, Q, hl, rel, r, h => by
    cases l with
    | nil => exact ⟨r, h σ rel⟩
    | cons _ _ => simp at hl
  | i :: is, l, vs, Γ, σ, H, Q, hl, rel, r, h => by
    cases l with
    | nil => simp at hl
    | cons w l =>
      obtain ⟨v, t, rfl, r1, r2⟩ := r
      exact ⟨v, t, rfl, gsN_run (by simpa using hl) (rel.set r1) r2 h⟩
theorem gsN_run2 {k : Kx} {F : Hp} {μ : Nat → Addr} {N : Nat} {vs' : List Nat} : ∀ {is : List Nat} {l : List W} {vs : List V} {Γ : Env'} {σ : St} {H : Hp} {Q : St → Hp → Prop}, (∀ i ∈ is, i ∈ vs') → l.length = is.length → RelG k F μ N Γ σ → RpWs k F μ N l vs → (∀ σ', RelG k F μ N (setAll is l Γ) σ' → wipe σ' vs' = wipe σ vs' → Q σ' H) → gsN is vs σ H Q
  | [], l, vs, Γ, σ, H, Q, hm, hl, rel, r, h => by
    cases l with
    | nil => exact ⟨r, h σ rel rfl⟩
    | cons _ _ => simp at hl
  | i :: is, l, vs, Γ, σ, H, Q, hm, hl, rel, r, h => by
    cases l with
    | nil => simp at hl
    | cons w l =>
      obtain ⟨v, t, rfl, r1, r2⟩ := r
      exact ⟨v, t, rfl, gsN_run2 (fun j hj => hm j (List.mem_cons_of_mem _ hj)) (by simpa using hl) (rel.set r1) r2 fun σ' r' hw => h σ' r' (by rw [hw, wipe_set (hm i List.mem_cons_self)])⟩
theorem unsets_rel {k : Kx} {F : Hp} {μ : Nat → Addr} {N : Nat} {Γ : Env'} {σ : St} (rel : RelG k F μ N Γ σ) : ∀ is : List Nat, RelG k F μ N (unsets is Γ) (wipe σ is)
  | [] => rel
  | i :: is => (unsets_rel rel is).unset none
theorem hg_one {k : Kx} {Γ : Env'} {σ : St} {i : Nat} (S1 : Sto) (d : W) (Γ' : Env') (h : stp1 i d Γ = some Γ') (x : V) (F H : Hp) (μ : Nat → Addr) (rel : RelG k F μ S1.length Γ σ) (st : StoOk k F H μ S1) (hx : RpW k F μ S1.length d x) (Q : St → Hp → Prop) (hQ : ∀ σ', RelG k F μ S1.length Γ' σ' → wipe σ' [i] = wipe σ [i] → Q σ' H) : gName i x (wipe σ [i]) H Q := by
  cases h
  have es : (wipe σ [i]).set i (some x) = σ.set i (some x) := by
    show (σ.set i none).set i (some x) = _
    rw [List.set_set]
  show Q ((wipe σ [i]).set i (some x)) H
  rw [es]
  exact hQ _ (rel.set hx) (wipe_set (by simp))
theorem tupOf_some {d : W} {l : List D} (h : tupOf d = some l) : d = .v (.tup l) := by
  cases d with
  | r n => cases h
  | v d => cases d <;> first | (cases h; done) | (cases h; rfl)
theorem stpU_some {is : List Nat} {d : W} {Γ Γ' : Env'} (h : stpU is d Γ = some Γ') : ∃ l, d = .v (.tup l) ∧ l.length = is.length ∧ Γ' = setAll is (l.map W.v) Γ := by
  unfold stpU at h
  split at h
  · rename_i l hl
    split at h
    · rename_i he
      cases h
      exact ⟨l, tupOf_some hl, he, rfl⟩
    · cases h
  · cases h
theorem hg_tup {k : Kx} {Γ : Env'} {σ : St} {is : List Nat} (S1 : Sto) (d : W) (Γ' : Env') (h : stpC is d Γ = some Γ') (x : V) (F H : Hp) (μ : Nat → Addr) (rel : RelG k F μ S1.length Γ σ) (st : StoOk k F H μ S1) (hx : RpW k F μ S1.length d x) (Q : St → Hp → Prop) (hQ : ∀ σ', RelG k F μ S1.length Γ' σ' → wipe σ' is = wipe σ is → Q σ' H) : gTup k.K is.length (gsN is) x (wipe σ is) H Q := by
  obtain ⟨l, rfl, hl, rfl⟩ := stpU_some h
  simp only [RpW, Rp] at hx
  obtain ⟨a, vs, rfl, h2, h3⟩ := hx
  refine ⟨a, vs, rfl, sqT_mono st.sub h2, by rw [h3.len]; exact hl, ?_⟩
  exact gsN_run2 (fun _ h => h) (by simpa using hl) (unsets_rel rel is) h3.ws fun σ' r' hw => hQ σ' r' (by rw [hw, wipe_wipe])
theorem ownU_map {M : Nm} {sc : Scope} : ∀ {is : List Nat} {es : List Expr}, okU M sc is es = true → (ownU is es).map (·.2) = is
  | [], [], _ => rfl
  | [], _ :: _, h => Bool.noConfusion h
  | i :: is, [], h => Bool.noConfusion h
  | i :: is, e :: es, h => by
    cases e with
    | Name x p =>
      have h : (decide (M.N[i]? = some x) && locB sc x && okU M sc is es) = true := h
      simp only [Bool.and_eq_true] at h
      show i :: (ownU is es).map (·.2) = _
      rw [ownU_map h.2]
    | _ => exact Bool.noConfusion h
theorem blk_pgs (C : Cok X M T Z lv) {scope : Scope} (s : Shared) (H : Hp) (Cc : Addr) (cl : List (Str × Addr)) (fp : List Addr) : ∀ {is : List Nat} {es : List Expr}, okU M scope is es = true → PGs (X.blk s H scope (compEnvC scope cl Cc X.env) fp) es (gsN is) ∧ (assignEach es (X.blk s H scope (compEnvC scope cl Cc X.env) fp).env).length = is.length ∧ (assignEach es (X.blk s H scope (compEnvC scope cl Cc X.env) fp).env).findIdx? (·.1) = none
  | [], [], _ => ⟨pgs_nil, rfl, rfl⟩
  | [], _ :: _, h => Bool.noConfusion h
  | i :: is, [], h => Bool.noConfusion h
  | i :: is, e :: es, h => by
    cases e with
    | Name x p =>
      have h : (decide (M.N[i]? = some x) && locB scope x && okU M scope is es) = true := h
      simp only [Bool.and_eq_true, decide_eq_true_eq] at h
      obtain ⟨⟨h1, h2⟩, h3⟩ := h
      obtain ⟨q1, q2, q3⟩ := blk_pgs C s H Cc cl fp h3
      refine ⟨pgs_cons (blk_pg C h1 h2 s H Cc cl fp) q1 rfl, ?_, ?_⟩
      · show (assignEach es _).length + 1 = _
        rw [q2]; rfl
      · show List.findIdx? _ ((false, assign (.Name x p) _) :: assignEach es _) = none
        rw [List.findIdx?_cons]
        simp [q3]
    | _ => exact Bool.noConfusion h
theorem blk_pgt (C : Cok X M T Z lv) {scope : Scope} {is : List Nat} {es : List Expr} {kk : Nat} {pos : Pos} (h : okU M scope is es = true) (s : Shared) (H : Hp) (Cc : Addr) (cl : List (Str × Addr)) (fp : List Addr) : PG (X.blk s H scope (compEnvC scope cl Cc X.env) fp) (.Tuple es kk pos) (gTup X.K is.length (gsN is)) := by
  obtain ⟨q1, q2, q3⟩ := blk_pgs C s H Cc cl fp h
  exact pg_tup C.calm q1 q2 q3
theorem no_en {e tg : Expr} (h : noSet e = true) : enI e = true → isTup tg = true := fun z => by rw [noSet_en h] at z; cases z
theorem rd_lc {elt iter tg : Expr} {scope : Scope} {gt : TG} {vs : List Nat} {stp : W → Env' → Option Env'} {oi : Out W} {fe : Env' → Sto → Out W} (si : SndI X (kx X Z) Γ S iter oi) (se : ∀ Γ' S1, SndB X Z scope Γ' S1 elt (fe Γ' S1)) (ht : enI iter = true → isTup tg = true) (hg : ∀ (S1 : Sto) d Γ', stp d Γ = some Γ' → ∀ x F H μ, RelG (kx X Z) F μ S1.length Γ σ → StoOk (kx X Z) F H μ S1 → RpW (kx X Z) F μ S1.length d x → ∀ Q : St → Hp → Prop, (∀ σ', RelG (kx X Z) F μ S1.length Γ' σ' → wipe σ' vs = wipe σ vs → Q σ' H) → gt x (wipe σ vs) H Q) (hb : oi.bind (lcG0 stp fe Γ) ≠ .bad) (rel : RelG (kx X Z) F μ S.length Γ σ) (st : StoOk (kx X Z) F H μ S) (er : ErrE X (kx X Z) σ F H μ S (oi.bind (lcG0 stp fe Γ))) {Q : VK} (hQ : ∀ v H', PoO (kx X Z) F H μ S (oi.bind (lcG0 stp fe Γ)) v H' → Q v H') :
    tLc (WI X tg iter) gt tYes (teB X scope elt) vs σ H Q := by
  refine lc_gen (g := fun w S1 => turnG stp fe Γ S1) si hb rel st er ht hg (fun w S1 d o S' h => ?_) hQ
  obtain ⟨Γ', hΓ, h⟩ := opt_ok (show (opt (stp d Γ) fun Γ' => lcF (fe Γ') S1) = .ok o S' from h)
  refine ⟨Γ', hΓ, fun σ2 F2 H2 μ2 rel2 st2 Yes No hy hn => ?_⟩
  show (if true = true then teB X scope elt σ2 H2 Yes else No H2)
  rw [if_pos rfl]
  exact lc_elt (se _ S1) h rel2 st2 hy
theorem rd_lcc {elt iter c tg : Expr} {scope : Scope} {gt : TG} {vs : List Nat} {stp : W → Env' → Option Env'} {oi : Out W} {fe : Env' → Sto → Out W} {ft : Env' → Sto → Out Bool} (si : SndI X (kx X Z) Γ S iter oi) (se : ∀ Γ' S1, SndB X Z scope Γ' S1 elt (fe Γ' S1)) (sc : ∀ Γ' S1, SndBT X Z scope Γ' S1 c (ft Γ' S1)) (ht : enI iter = true → isTup tg = true) (hg : ∀ (S1 : Sto) d Γ', stp d Γ = some Γ' → ∀ x F H μ, RelG (kx X Z) F μ S1.length Γ σ → StoOk (kx X Z) F H μ S1 → RpW (kx X Z) F μ S1.length d x → ∀ Q : St → Hp → Prop, (∀ σ', RelG (kx X Z) F μ S1.length Γ' σ' → wipe σ' vs = wipe σ vs → Q σ' H) → gt x (wipe σ vs) H Q) (hb : oi.bind (lcG1 stp ft fe Γ) ≠ .bad) (rel : RelG (kx X Z) F μ S.length Γ σ) (st : StoOk (kx X Z) F H μ S) (er : ErrE X (kx X Z) σ F H μ S (oi.bind (lcG1 stp ft fe Γ))) {Q : VK} (hQ : ∀ v H', PoO (kx X Z) F H μ S (oi.bind (lcG1 stp ft fe Γ)) v H' → Q v H') :
    tLc (WI X tg iter) gt (ttB X scope c) (teB X scope elt) vs σ H Q := by
  refine lc_gen (g := fun w S1 => turnGC stp ft fe Γ S1) si hb rel st er ht hg (fun w S1 d o S' h => ?_) hQ
  obtain ⟨Γ', hΓ, h⟩ := opt_ok (show (opt (stp d Γ) fun Γ' => lccF (ft Γ') (fe Γ') S1) = .ok o S' from h)
  refine ⟨Γ', hΓ, fun σ2 F2 H2 μ2 rel2 st2 Yes No hy hn => ?_⟩
  have h : (ft Γ' S1).bind (lccK (fe Γ') S1) = .ok o S' := h
  obtain ⟨z, S3, h1, h2⟩ := Out.bind_ok' h
  unfold lccK at h2
  obtain ⟨rfl, h2⟩ := need_okC h2
  intro s H0 Cc cl fp
  have sc1 := sc Γ' S3 s H0 Cc cl fp
  rw [h1] at sc1
  refine (sc1 (by simp) σ2 F2 H2 μ2 rel2 st2 .ok).mono fun b H3 ⟨eb, F3, μ3, g3, st3⟩ => ?_
  subst eb
  cases b with
  | true =>
    rw [if_pos rfl]
    have h2 : lcF (fe Γ') S3 = .ok o S' := h2
    exact lc_elt (se _ S3) h2 (rel2.gr g3) st3 fun wy e y F4 H4 μ4 g4 s4 r4 => hy wy e y F4 H4 μ4 (g3.trans g4) s4 r4
  | false =>
    rw [if_neg (by decide)]
    cases h2
    exact hn rfl F3 H3 μ3 g3 st3
theorem snd_lc (C : Cok X M T Z lv) {elt iter : Expr} {x : Str} {px pos : Pos} {scope : Scope} {i : Nat} {oi : Out W} {fe : Env' → Sto → Out W} (hi : M.N[i]? = some x) (hl : locB scope x = true) (hk : BlkOk X.N X.env.scope scope [(x, i)]) (hns : noSet iter = true) (si : SndI X (kx X Z) Γ S iter oi) (se : ∀ Γ' S1, SndB X Z scope Γ' S1 elt (fe Γ' S1)) :
    SndE X (kx X Z) Γ S (.ListComp elt [⟨.Name x px, iter, [], 0⟩] scope pos) (oi.bind (lcE0 fe Γ i)) := by
  intro hb σ F H μ rel st er
  refine .of (pe_lc C.calm C.nd WI.pi hk (blk_pg C hi hl) (fun _ _ _ _ _ => pts_nil) teB_pe (foldedSet_of hns)) ?_
  exact rd_lc si se (no_en hns) (stp := stp1 i) hg_one hb rel st er fun v H' q => q
theorem snd_lcc (C : Cok X M T Z lv) {elt iter c : Expr} {x : Str} {px pos : Pos} {scope : Scope} {i : Nat} {oi : Out W} {fe : Env' → Sto → Out W} {ft : Env' → Sto → Out Bool} (hi : M.N[i]? = some x) (hl : locB scope x = true) (hk : BlkOk X.N X.env.scope scope [(x, i)]) (hns : noSet iter = true) (si : SndI X (kx X Z) Γ S iter oi) (se : ∀ Γ' S1, SndB X Z scope Γ' S1 elt (fe Γ' S1)) (sc : ∀ Γ' S1, SndBT X Z scope Γ' S1 c (ft Γ' S1)) :
    SndE X (kx X Z) Γ S (.ListComp elt [⟨.Name x px, iter, [c], 0⟩] scope pos) (oi.bind (lcE1 ft fe Γ i)) := by
  intro hb σ F H μ rel st er
  refine .of (pe_lc C.calm C.nd WI.pi hk (blk_pg C hi hl) (fun s H Cc cl fp => pts_one (ttB_pt s H Cc cl fp)) teB_pe (foldedSet_of hns)) ?_
  exact rd_lcc si se sc (no_en hns) (stp := stp1 i) hg_one hb rel st er fun v H' q => q
theorem snd_lcu (C : Cok X M T Z lv) {elt iter : Expr} {ts : List Expr} {kk : Nat} {px pos : Pos} {scope : Scope} {is : List Nat} {oi : Out W} {fe : Env' → Sto → Out W} (hu : okU M scope is ts = true) (hk : BlkOk X.N X.env.scope scope (ownU is ts)) (hns : noSet0 iter = true) (si : SndI X (kx X Z) Γ S iter oi) (se : ∀ Γ' S1, SndB X Z scope Γ' S1 elt (fe Γ' S1)) :
    SndE X (kx X Z) Γ S (.ListComp elt [⟨.Tuple ts kk px, iter, [], 0⟩] scope pos) (oi.bind (lcG0 (stpC is) fe Γ)) := by
  intro hb σ F H μ rel st er
  have p := pe_lc (elt := elt) (wi := WI X (.Tuple ts kk px) iter) (pos := pos) C.calm C.nd WI.pi hk (blk_pgt C hu) (fun _ _ _ _ _ => pts_nil) teB_pe (foldedSet_of0 hns)
  rw [ownU_map hu] at p
  refine .of p ?_
  exact rd_lc si se (fun _ => rfl) hg_tup hb rel st er fun v H' q => q
theorem snd_lccu (C : Cok X M T Z lv) {elt iter c : Expr} {ts : List Expr} {kk : Nat} {px pos : Pos} {scope : Scope} {is : List Nat} {oi : Out W} {fe : Env' → Sto → Out W} {ft : Env' → Sto → Out Bool} (hu : okU M scope is ts = true) (hk : BlkOk X.N X.env.scope scope (ownU is ts)) (hns : noSet0 iter = true) (si : SndI X (kx X Z) Γ S iter oi) (se : ∀ Γ' S1, SndB X Z scope Γ' S1 elt (fe Γ' S1)) (sc : ∀ Γ' S1, SndBT X Z scope Γ' S1 c (ft Γ' S1)) :
    SndE X (kx X Z) Γ S (.ListComp elt [⟨.Tuple ts kk px, iter, [c], 0⟩] scope pos) (oi.bind (lcG1 (stpC is) ft fe Γ)) := by
  intro hb σ F H μ rel st er
  have p := pe_lc (elt := elt) (wi := WI X (.Tuple ts kk px) iter) (pos := pos) C.calm C.nd WI.pi hk (blk_pgt C hu) (fun s H Cc cl fp => pts_one (ttB_pt (e := c) s H Cc cl fp)) teB_pe (foldedSet_of0 hns)
  rw [ownU_map hu] at p
  refine .of p ?_
  exact rd_lcc si se sc (fun _ => rfl) hg_tup hb rel st er fun v H' q => q
end
end NV

/-! two generators -/
namespace NV
open PySem L2
open PyProof.Rows hiding St
section
variable {X : Cx} {M : Nm} {T : Tb} {Z : Zt} {lv : Nat} {Γ : Env'} {S : Sto} {σ : St} {F H : Hp} {μ : Nat → Addr}
theorem WI.up {tg iter : Expr} {R R' : It → Hp → Prop} (h : WI X tg iter σ H R) (q : ∀ J H', R J H' → R' J H') : WI X tg iter σ H R' := fun pins s I => by
  refine thn (h pins s I) fun v s1 h1 => thn h1 fun itv s2 h2 => ?_
  obtain ⟨it, fp, tn, J, H1, e1, I1, T1, t1, f1, r⟩ := h2
  exact ⟨it, fp, tn, J, H1, e1, I1, T1, t1, f1, q J H1 r⟩
theorem lcRunL_cons {f : W → Out (List W)} {d : W} {r out : List W} {S' : Sto} (h : lcRunL f (d :: r) = .ok out S') : ∃ xs l S1 S2, f d = .ok xs S1 ∧ lcRunL f r = .ok l S2 ∧ out = xs ++ l := by
  unfold lcRunL at h
  split at h
  · rename_i xs S1 e
    obtain ⟨l, S2, h1, h2⟩ := Out.bind_ok' h
    have h2 : Out.ok (xs ++ l) S2 = Out.ok out S' := h2
    obtain ⟨rfl, rfl⟩ := Out.ok.inj h2
    exact ⟨xs, l, S1, _, e, h1, rfl⟩
  · cases h
theorem lcRunL_noerr {f : W → Out (List W)} : ∀ {l : List W} {e : Er} {S' : Sto}, lcRunL f l ≠ .err e S'
  | [], e, S', h => by cases h
  | d :: r, e, S', h => by
    unfold lcRunL at h
    split at h
    · rcases Out.bind_err' h with h | ⟨a, S1, _, h⟩
      · exact lcRunL_noerr h
      · cases h
    · cases h
theorem lc2_read {k : Kx} {tg iter : Expr} {gt g1 : TG} {vs vs1 : List Nat} {stp stp2 : W → Env' → Option Env'} {f : W → Out (List W)} {f2 : Env' → W → Out (Option W)} {w : W} {S1 S0 : Sto} {l out : List W} {wi1 : TI} {tt : TT} {te : TE} {Q : VK} (rel : RelG k F μ S.length Γ σ)
    (wi : WI X tg iter σ H (PoIt k F H μ S (.ok w S1))) (hl : seqOf S1 w = some l) (hrun : lcRunL f l = .ok out S0) (hz : out.length ≤ sizeLine)
    (hg : ∀ d Γ', stp d Γ = some Γ' → ∀ x F H μ, RelG k F μ S1.length Γ σ → StoOk k F H μ S1 → RpW k F μ S1.length d x → ∀ Q : St → Hp → Prop, (∀ σ', RelG k F μ S1.length Γ' σ' → wipe σ' vs = wipe σ vs → Q σ' H) → gt x (wipe σ vs) H Q)
    (hin : ∀ d xs S', f d = .ok xs S' → ∃ Γ' w2 l2 S2, stp d Γ = some Γ' ∧ seqOf S1 w2 = some l2 ∧ lcRun (f2 Γ') l2 = .ok xs S2 ∧ ∀ σ2 F2 H2 μ2 (R : It → Hp → Prop), RelG k F2 μ2 S1.length Γ' σ2 → StoOk k F2 H2 μ2 S1 → (∀ J H4, PoIt k F2 H2 μ2 S1 (.ok w2 S1) J H4 → R J H4) → wi1 σ2 H2 R)
    (hg1 : ∀ Γ1 σ2 d Γ', stp2 d Γ1 = some Γ' → ∀ x F H μ, RelG k F μ S1.length Γ1 σ2 → StoOk k F H μ S1 → RpW k F μ S1.length d x → ∀ Q : St → Hp → Prop, (∀ σ', RelG k F μ S1.length Γ' σ' → wipe σ' vs1 = wipe σ2 vs1 → Q σ' H) → g1 x (wipe σ2 vs1) H Q)
    (hstep : ∀ Γ1 d o S', f2 Γ1 d = .ok o S' → ∃ Γ', stp2 d Γ1 = some Γ' ∧ ∀ σ2 F2 H2 μ2, RelG k F2 μ2 S1.length Γ' σ2 → StoOk k F2 H2 μ2 S1 → ∀ (Yes : V → Hp → Prop) (No : Hp → Prop),
      (∀ wy, o = some wy → ∀ y F4 H4 μ4, Gr F2 H2 μ2 S1 F4 H4 μ4 S1 → StoOk k F4 H4 μ4 S1 → RpW k F4 μ4 S1.length wy y → Yes y H4) → (o = none → ∀ F3 H3 μ3, Gr F2 H2 μ2 S1 F3 H3 μ3 S1 → StoOk k F3 H3 μ3 S1 → No H3) →
      tt σ2 H2 (fun b H3 => if b = true then te σ2 H3 Yes else No H3))
    (hQ : ∀ v H', PoW k F H μ S (.r S1.length) (S1 ++ [.lst out]) v H' → Q v H') : tLc2 (WI X tg iter) gt tYes wi1 g1 tt te vs vs1 σ H Q := by
  show WI X tg iter σ H _
  intro pins s I
  refine thn (wi pins s I) fun v s1 h1 => thn h1 fun itv s2 h2 => ?_
  obtain ⟨it, fp, tn, J, H1, e1, I1, T1, t1, f1, F1, μ1, gr1, st1, wk⟩ := h2
  have wk := wk _ (seq_sqOf hl)
  refine ⟨it, fp, tn, J, H1, e1, I1, T1, t1, f1, fun D hD => ?_⟩
  have hHD : H D = none := gr1.dom D hD
  have live : ∀ (m : Nat) (c : Cell), S1[m]? = some c → c ≠ .dead → μ1 m ≠ D := fun m c hc hd e => by
    obtain ⟨o, ho⟩ := (st1.cell m c hc).some hd
    rw [e, hD] at ho; cases ho
  have liveM : ∀ μj : Nat → Addr, (∀ n, n < S1.length → μj n = μ1 n) → ∀ (m : Nat) (c : Cell), S1[m]? = some c → c ≠ .dead → μj m ≠ D := fun μj hm m c hc hd => by
    rw [hm m (List.getElem?_eq_some_iff.mp hc).1]; exact live m c hc hd
  have nW : ∀ μj : Nat → Addr, (∀ n, n < S1.length → μj n = μ1 n) → ¬ Wr μj S1 D := fun μj hm ⟨m, c, h1, h2, h3⟩ => liveM μj hm m c h1 h2 h3
  have keep : ∀ {Fj H' : Hp} {μj : Nat → Addr} {acc : List V}, (∀ n, n < S1.length → μj n = μ1 n) → Fj D = none → H' D = some (.lst acc) → ∀ {F4 H4 : Hp} {μ4 : Nat → Addr}, Gr Fj H' μj S1 F4 H4 μ4 S1 → H4 D = some (.lst acc) ∧ F4 D = none ∧ (∀ n, n < S1.length → μ4 n = μ1 n) := fun {Fj H' μj acc} hmj fj hacc {F4 H4 μ4} g4 => by
    refine ⟨g4.h _ _ hacc (nW μj hmj), ?_, fun n hn => by rw [g4.mu n hn]; exact hmj n hn⟩
    cases q : F4 D with
    | none => rfl
    | some u =>
      rcases g4.new _ _ q with z | z | z
      · rw [fj] at z; cases z
      · rw [hacc] at z; cases z
      · exact absurd z (nW μj hmj)
  -- what holds between two turns: the list so far is out1
  let Mid : List W → Hp → Prop := fun out1 H' => ∃ Fj μj acc, Gr F H μ S Fj H' μj S1 ∧ StoOk k Fj H' μj S1 ∧ Same F1 Fj ∧ (∀ n, n < S1.length → μj n = μ1 n) ∧ Fj D = none ∧ H' D = some (.lst acc) ∧ RpWs k Fj μj S1.length out1 acc
  refine ⟨fun j m H' => m = l.length - j ∧ j ≤ l.length ∧ ∃ out1 out2 S2, Mid out1 H' ∧ lcRunL f (l.drop j) = .ok out2 S2 ∧ out = out1 ++ out2, ⟨l.length, ?_⟩, ?_⟩
  · have fD : F1 D = none := st1.sub.free hD
    exact ⟨by simp, Nat.zero_le _, [], out, S0, ⟨F1, μ1, [], gr1.poke hHD _, st1.poke fD live _, Same.refl _, fun _ _ => rfl, fD, upd_same, RpWs.nil'⟩, by simpa using hrun, rfl⟩
  · rintro j m H' ⟨rfl, hj, out1, out2, S2, ⟨Fj, μj, acc, gj, stj, sj, hmj, fj, hacc, racc⟩, hr2, hout⟩
    obtain ⟨wk1, wk2⟩ := wk j Fj H' μj S1 stj sj hmj (Nat.le_refl _) (seq_sqOf hl)
    by_cases hlt : j < l.length
    · have hd : l[j]? = some l[j] := List.getElem?_eq_getElem hlt
      obtain ⟨go, yl⟩ := wk1 _ hd
      rw [List.drop_eq_getElem_cons hlt] at hr2
      obtain ⟨xs, l2, S3, S4, ho, hl2, rfl⟩ := lcRunL_cons hr2
      refine .inr ⟨go, fun H'' => Mid (out1 ++ xs) H'', fun H'' hm => ⟨l.length - (j + 1), by omega, rfl, hlt, out1 ++ xs, l2, S4, hm, hl2, by rw [hout, List.append_assoc]⟩, fun x H2 y => ?_⟩
      obtain ⟨Fy, μy, gy, sty, hx⟩ := yl x H2 y
      obtain ⟨Γ', w2, m2, S5, hΓ', hm2, hrun2, hw2⟩ := hin _ xs S3 ho
      refine hg _ Γ' hΓ' x Fy H2 μy ((rel.gr gj).gr gy) sty hx _ fun σ2 rel2 hwp => ⟨hwp, ?_⟩
      dsimp only [tYes]
      rw [if_pos rfl]
      refine hw2 σ2 Fy H2 μy _ rel2 sty fun J1 H4 po => ?_
      obtain ⟨F4, μ4, g4, st4, wk4⟩ := po
      have wk4 := wk4 _ (seq_sqOf hm2)
      have gj4 := gy.trans g4
      obtain ⟨acc4, f4, hm4⟩ := keep hmj fj hacc gj4
      refine ⟨fun i k' H5 => k' = m2.length - i ∧ i ≤ m2.length ∧ ∃ xs1 xs2 S6, xs = xs1 ++ xs2 ∧ lcRun (f2 Γ') (m2.drop i) = .ok xs2 S6 ∧ ∃ Fi μi acci, Gr F H μ S Fi H5 μi S1 ∧ StoOk k Fi H5 μi S1 ∧ Same F4 Fi ∧ (∀ n, n < S1.length → μi n = μ1 n) ∧ Fi D = none ∧ H5 D = some (.lst acci) ∧ RpWs k Fi μi S1.length (out1 ++ xs1) acci ∧ RelG k Fi μi S1.length Γ' σ2, ⟨m2.length, ?_⟩, ?_⟩
      · exact ⟨by simp, Nat.zero_le _, [], xs, S5, rfl, by simpa using hrun2, F4, μ4, acc, gj.trans gj4, st4, Same.refl _, hm4, f4, acc4, by rw [List.append_nil]; exact racc.mono gj4.f gj4.mu gj4.len, rel2.gr g4⟩
      · rintro i k' H5 ⟨rfl, hi, xs1, xs2, S6, hxs, hr3, Fi, μi, acci, gi, sti, si, hmi, fi, hacci, racci, reli⟩
        obtain ⟨wk5, wk6⟩ := wk4 i Fi H5 μi S1 sti si (fun n hn => by rw [hmi n hn, hm4 n hn]) (Nat.le_refl _) (seq_sqOf hm2)
        by_cases hlt2 : i < m2.length
        · have hd2 : m2[i]? = some m2[i] := List.getElem?_eq_getElem hlt2
          obtain ⟨go2, yl2⟩ := wk5 _ hd2
          rw [List.drop_eq_getElem_cons hlt2] at hr3
          obtain ⟨o, l3, S7, S8, ho2, hl3, rfl⟩ := lcRun_cons hr3
          refine .inr ⟨go2, fun H6 => ∃ xs1', xs = xs1' ++ l3 ∧ ∃ Fi μi acci, Gr F H μ S Fi H6 μi S1 ∧ StoOk k Fi H6 μi S1 ∧ Same F4 Fi ∧ (∀ n, n < S1.length → μi n = μ1 n) ∧ Fi D = none ∧ H6 D = some (.lst acci) ∧ RpWs k Fi μi S1.length (out1 ++ xs1') acci ∧ RelG k Fi μi S1.length Γ' σ2,
            fun H6 ⟨xs1', q1, q2⟩ => ⟨m2.length - (i + 1), by omega, rfl, hlt2, xs1', l3, S8, q1, hl3, q2⟩, fun x2 H7 y2 => ?_⟩
          obtain ⟨F8, μ8, g8, st8, hx2⟩ := yl2 x2 H7 y2
          obtain ⟨Γ2, hΓ2, hst⟩ := hstep Γ' _ o S7 ho2
          refine hg1 Γ' σ2 _ Γ2 hΓ2 x2 F8 H7 μ8 (reli.gr g8) st8 hx2 _ fun σ3 rel3 hwp3 => ⟨hwp3, ?_⟩
          refine hst σ3 F8 H7 μ8 rel3 st8 _ _ (fun dy ey y' F9 H9 μ9 g9' st9 hy => ?_) (fun en F9 H9 μ9 g9' st9 => ?_)
          · subst ey
            have g9 := g8.trans g9'
            obtain ⟨e9, f9, m9⟩ := keep hmi fi hacci g9
            have G := gi.trans g9
            refine ⟨acci, e9, ?_, xs1 ++ [dy], by rw [hxs]; simp, F9, μ9, acci ++ [y'], G.poke hHD _, st9.poke f9 (liveM μ9 m9) _, si.trans g9.f, m9, f9, upd_same, ?_, ?_⟩
            · rw [racci.len]
              have : out.length = (out1 ++ xs1).length + 1 + l3.length + l2.length := by rw [hout, hxs]; simp; omega
              omega
            · rw [← List.append_assoc]
              exact (racci.mono g9.f g9.mu g9.len).app (.one hy)
            · exact reli.gr g9
          · subst en
            have g9 := g8.trans g9'
            obtain ⟨e9, f9, m9⟩ := keep hmi fi hacci g9
            exact ⟨xs1, by rw [hxs], F9, μ9, acci, gi.trans g9, st9, si.trans g9.f, m9, f9, e9, racci.mono g9.f g9.mu g9.len, reli.gr g9⟩
        · have ei : i = m2.length := by omega
          subst ei
          rw [List.drop_length] at hr3
          cases hr3
          rw [List.append_nil] at hxs
          subst hxs
          exact .inl ⟨wk6 rfl, Fi, μi, acci, gi, sti, (sj.trans gj4.f).trans si, hmi, fi, hacci, racci⟩
    · have ej : j = l.length := by omega
      subst ej
      refine .inl ⟨wk2 rfl, hQ _ _ ?_⟩
      rw [List.drop_length] at hr2
      cases hr2
      rw [List.append_nil] at hout
      subst hout
      obtain ⟨g2, st2⟩ := adopt gj stj hHD (liveM μj hmj) (c := .lst out) ⟨acc, hacc, fj, mu1_mono racc⟩
      exact ⟨Fj, _, g2, st2, by rw [mu1_same], by simp⟩

/-- a target's store -/
def gtG (K : PySem.W.Frag) : Tg → TG
  | .one i => gName i
  | .tup is => gTup K is.length (gsN is)
theorem hg_G {k : Kx} {Γ : Env'} {σ : St} {g : Tg} {vs : List Nat} (hsub : ∀ i ∈ g.ns, i ∈ vs) (S1 : Sto) (d : W) (Γ' : Env') (h : stpV vs g d Γ = some Γ') (x : V) (F H : Hp) (μ : Nat → Addr) (rel : RelG k F μ S1.length Γ σ) (st : StoOk k F H μ S1) (hx : RpW k F μ S1.length d x) (Q : St → Hp → Prop) (hQ : ∀ σ', RelG k F μ S1.length Γ' σ' → wipe σ' vs = wipe σ vs → Q σ' H) : gtG k.K g x (wipe σ vs) H Q := by
  cases g with
  | one i =>
    cases h
    show Q ((wipe σ vs).set i (some x)) H
    exact hQ _ ((unsets_rel rel vs).set hx) (by rw [wipe_set (hsub i (by simp [Tg.ns])), wipe_wipe])
  | tup is =>
    obtain ⟨l, rfl, hl, rfl⟩ := stpU_some (show stpU is d (unsets vs Γ) = some Γ' from h)
    simp only [RpW, Rp] at hx
    obtain ⟨a, us, rfl, h2, h3⟩ := hx
    refine ⟨a, us, rfl, sqT_mono st.sub h2, by rw [h3.len]; exact hl, ?_⟩
    exact gsN_run2 hsub (by simpa using hl) (unsets_rel rel vs) h3.ws fun σ' r' hw => hQ σ' r' (by rw [hw, wipe_wipe])
theorem blk_G (C : Cok X M T Z lv) {g : Tg} {t : Expr} {scope : Scope} (h : okG M scope g t = true) (s : Shared) (H : Hp) (Cc : Addr) (cl : List (Str × Addr)) (fp : List Addr) : PG (X.blk s H scope (compEnvC scope cl Cc X.env) fp) t (gtG X.K g) := by
  cases g with
  | one i =>
    cases t with
    | Name x p =>
      have h : (decide (M.N[i]? = some x) && locB scope x) = true := h
      simp only [Bool.and_eq_true, decide_eq_true_eq] at h
      exact blk_pg C h.1 h.2 s H Cc cl fp
    | _ => exact Bool.noConfusion h
  | tup is =>
    cases t with
    | Tuple ts kk p => exact blk_pgt C h s H Cc cl fp
    | _ => exact Bool.noConfusion h
theorem ownG_map {g : Tg} {t : Expr} {scope : Scope} (h : okG M scope g t = true) : (ownG g t).map (·.2) = g.ns := by
  cases g with
  | one i => cases t <;> first | rfl | exact Bool.noConfusion h
  | tup is =>
    cases t with
    | Tuple ts kk p => exact ownU_map (show okU M scope is ts = true from h)
    | _ => exact Bool.noConfusion h
theorem enT_of {t e : Expr} (h : enT t e = true) : enI e = true → isTup t = true := fun z => by
  unfold enT at h
  rw [z] at h
  simpa using h
/-- the second source, in the block -/
def wiB (X : Cx) (scope : Scope) (tg iter : Expr) : TI := fun σ H R => ∀ (s : Shared) (H0 : Hp) (Cc : Addr) (cl : List (Str × Addr)) (fp : List Addr), WI (X.blk s H0 scope (compEnvC scope cl Cc X.env) fp) tg iter σ H R
theorem wiB_pi {scope : Scope} {tg iter : Expr} (s : Shared) (H0 : Hp) (Cc : Addr) (cl : List (Str × Addr)) (fp : List Addr) : PI (X.blk s H0 scope (compEnvC scope cl Cc X.env) fp) tg iter (wiB X scope tg iter) := ⟨fun pins s' σ H R I h => h s H0 Cc cl fp pins s' I⟩
def SndBI (X : Cx) (Z : Zt) (scope : Scope) (Γ : Env') (S : Sto) (e : Expr) (o : Out W) : Prop := ∀ (s : Shared) (H0 : Hp) (Cc : Addr) (cl : List (Str × Addr)) (fp : List Addr), SndI (X.blk s H0 scope (compEnvC scope cl Cc X.env) fp) (kx X Z) Γ S e o
theorem lc2K_ok {S : Sto} {l : List W} {S0 S' : Sto} {w : W} (h : lc2K S l S0 = .ok w S') : l.length ≤ sizeLine ∧ w = .r S.length ∧ S' = S ++ [.lst l] := by
  obtain ⟨h1, h2⟩ := need_ok h
  cases h2
  exact ⟨h1, rfl, rfl⟩
theorem rd_lc2 {tg iter tg1 iter1 elt : Expr} {scope : Scope} {g1 g2 : Tg} {oi : Out W} {it2 : Env' → Sto → Out W} {f2 : Env' → Sto → W → Out (Option W)} {tt : TT} (si : SndI X (kx X Z) Γ S iter oi) (si2 : ∀ Γ' S1, SndBI X Z scope Γ' S1 iter1 (it2 Γ' S1)) (ht : enI iter = true → isTup tg = true) (ht1 : enI iter1 = true → isTup tg1 = true)
    (hstep : ∀ S1 Γ1 d o S', f2 Γ1 S1 d = .ok o S' → ∃ Γ', stpV g2.ns g2 d Γ1 = some Γ' ∧ ∀ σ2 F2 H2 μ2, RelG (kx X Z) F2 μ2 S1.length Γ' σ2 → StoOk (kx X Z) F2 H2 μ2 S1 → ∀ (Yes : V → Hp → Prop) (No : Hp → Prop),
      (∀ wy, o = some wy → ∀ y F4 H4 μ4, Gr F2 H2 μ2 S1 F4 H4 μ4 S1 → StoOk (kx X Z) F4 H4 μ4 S1 → RpW (kx X Z) F4 μ4 S1.length wy y → Yes y H4) → (o = none → ∀ F3 H3 μ3, Gr F2 H2 μ2 S1 F3 H3 μ3 S1 → StoOk (kx X Z) F3 H3 μ3 S1 → No H3) →
      tt σ2 H2 (fun b H3 => if b = true then teB X scope elt σ2 H3 Yes else No H3))
    (hb : oi.bind (lc2E (g1.ns ++ g2.ns) g1 it2 f2 Γ) ≠ .bad) (rel : RelG (kx X Z) F μ S.length Γ σ) (st : StoOk (kx X Z) F H μ S) (er : ErrE X (kx X Z) σ F H μ S (oi.bind (lc2E (g1.ns ++ g2.ns) g1 it2 f2 Γ))) {Q : VK} (hQ : ∀ v H', PoO (kx X Z) F H μ S (oi.bind (lc2E (g1.ns ++ g2.ns) g1 it2 f2 Γ)) v H' → Q v H') :
    tLc2 (WI X tg iter) (gtG X.K g1) tYes (wiB X scope tg1 iter1) (gtG X.K g2) tt (teB X scope elt) (g1.ns ++ g2.ns) g2.ns σ H Q := by
  cases oi with
  | bad => exact absurd rfl hb
  | err e S1 =>
    intro pins s I
    refine thn (si (by simp) tg ht σ F H μ rel st (fun e' S' q => by cases q; exact er e S1 rfl) pins s I) fun v s1 h1 => thn h1 fun itv s2 h2 => ?_
    obtain ⟨it, fp, tn, J, H1, e1, I1, T1, t1, f1, z⟩ := h2
    exact z.elim
  | ok w S1 =>
    have hb : opt (seqOf S1 w) (lc2L (lc2T (g1.ns ++ g2.ns) g1 it2 f2 Γ S1) S1) ≠ .bad := hb
    obtain ⟨l, hl, hb⟩ := opt_ne hb
    have e0 : (Out.ok w S1).bind (lc2E (g1.ns ++ g2.ns) g1 it2 f2 Γ) = lc2L (lc2T (g1.ns ++ g2.ns) g1 it2 f2 Γ S1) S1 l := by show opt (seqOf S1 w) _ = _; rw [hl]; rfl
    rw [e0] at hQ
    rcases Out.ne_cases hb with ⟨w', S2, ho⟩ | ⟨e, S2, ho⟩
    · obtain ⟨out, S0, h1, h2⟩ := Out.bind_ok' (show (lcRunL (lc2T (g1.ns ++ g2.ns) g1 it2 f2 Γ S1) l).bind (lc2K S1) = .ok w' S2 from ho)
      obtain ⟨hz, rfl, rfl⟩ := lc2K_ok h2
      rw [ho] at hQ
      refine lc2_read (stp := stpV (g1.ns ++ g2.ns) g1) (stp2 := stpV g2.ns g2) (f2 := fun Γ1 => f2 Γ1 S1) rel (si (by simp) tg ht σ F H μ rel st .ok) hl h1 hz (hg_G (fun i hi => List.mem_append_left _ hi) S1) (fun d xs S' h => ?_) (fun Γ1 σ2 => hg_G (fun i hi => hi) S1) (fun Γ1 d o S' h => hstep S1 Γ1 d o S' h) hQ
      obtain ⟨Γ', hΓ', h⟩ := opt_ok (show opt (stpV (g1.ns ++ g2.ns) g1 d Γ) (lc2F it2 f2 S1) = .ok xs S' from h)
      obtain ⟨w2, S3, h3, h4⟩ := Out.bind_ok' (show (it2 Γ' S1).bind (lc2In (f2 Γ' S1) S1) = .ok xs S' from h)
      obtain ⟨rfl, h5⟩ := need_okC (show _ = Out.ok xs S' from h4)
      obtain ⟨l2, h6, h7⟩ := opt_ok h5
      refine ⟨Γ', w2, l2, S', hΓ', h6, h7, fun σ2 F2 H2 μ2 R rel2 st2 hR => ?_⟩
      intro s0 H0 Cc cl fp
      have := si2 Γ' S3 s0 H0 Cc cl fp
      rw [h3] at this
      exact (this (by simp) tg1 ht1 σ2 F2 H2 μ2 rel2 st2 .ok).up hR
    · rcases Out.bind_err' (show (lcRunL (lc2T (g1.ns ++ g2.ns) g1 it2 f2 Γ S1) l).bind (lc2K S1) = .err e S2 from ho) with h | ⟨a, S3, _, h⟩
      · exact (lcRunL_noerr h).elim
      · obtain ⟨_, h⟩ := need_err h
        cases h

theorem step_lc2 {scope : Scope} {elt : Expr} {fe : Env' → Sto → Out W} {stp : W → Env' → Option Env'} (se : ∀ Γ' S1, SndB X Z scope Γ' S1 elt (fe Γ' S1)) (S1 : Sto) (Γ1 : Env') (d : W) (o : Option W) (S' : Sto) (h : turnG stp fe Γ1 S1 d = .ok o S') : ∃ Γ', stp d Γ1 = some Γ' ∧ ∀ σ2 F2 H2 μ2, RelG (kx X Z) F2 μ2 S1.length Γ' σ2 → StoOk (kx X Z) F2 H2 μ2 S1 → ∀ (Yes : V → Hp → Prop) (No : Hp → Prop),
      (∀ wy, o = some wy → ∀ y F4 H4 μ4, Gr F2 H2 μ2 S1 F4 H4 μ4 S1 → StoOk (kx X Z) F4 H4 μ4 S1 → RpW (kx X Z) F4 μ4 S1.length wy y → Yes y H4) → (o = none → ∀ F3 H3 μ3, Gr F2 H2 μ2 S1 F3 H3 μ3 S1 → StoOk (kx X Z) F3 H3 μ3 S1 → No H3) →
      tYes σ2 H2 (fun b H3 => if b = true then teB X scope elt σ2 H3 Yes else No H3) := by
  obtain ⟨Γ', hΓ, h⟩ := opt_ok (show (opt (stp d Γ1) fun Γ' => lcF (fe Γ') S1) = .ok o S' from h)
  refine ⟨Γ', hΓ, fun σ2 F2 H2 μ2 rel2 st2 Yes No hy hn => ?_⟩
  show (if true = true then teB X scope elt σ2 H2 Yes else No H2)
  rw [if_pos rfl]
  exact lc_elt (se _ S1) h rel2 st2 hy
theorem step_lc2c {scope : Scope} {elt c : Expr} {fe : Env' → Sto → Out W} {ft : Env' → Sto → Out Bool} {stp : W → Env' → Option Env'} (se : ∀ Γ' S1, SndB X Z scope Γ' S1 elt (fe Γ' S1)) (sc : ∀ Γ' S1, SndBT X Z scope Γ' S1 c (ft Γ' S1)) (S1 : Sto) (Γ1 : Env') (d : W) (o : Option W) (S' : Sto) (h : turnGC stp ft fe Γ1 S1 d = .ok o S') : ∃ Γ', stp d Γ1 = some Γ' ∧ ∀ σ2 F2 H2 μ2, RelG (kx X Z) F2 μ2 S1.length Γ' σ2 → StoOk (kx X Z) F2 H2 μ2 S1 → ∀ (Yes : V → Hp → Prop) (No : Hp → Prop),
      (∀ wy, o = some wy → ∀ y F4 H4 μ4, Gr F2 H2 μ2 S1 F4 H4 μ4 S1 → StoOk (kx X Z) F4 H4 μ4 S1 → RpW (kx X Z) F4 μ4 S1.length wy y → Yes y H4) → (o = none → ∀ F3 H3 μ3, Gr F2 H2 μ2 S1 F3 H3 μ3 S1 → StoOk (kx X Z) F3 H3 μ3 S1 → No H3) →
      ttB X scope c σ2 H2 (fun b H3 => if b = true then teB X scope elt σ2 H3 Yes else No H3) := by
  obtain ⟨Γ', hΓ, h⟩ := opt_ok (show (opt (stp d Γ1) fun Γ' => lccF (ft Γ') (fe Γ') S1) = .ok o S' from h)
  refine ⟨Γ', hΓ, fun σ2 F2 H2 μ2 rel2 st2 Yes No hy hn => ?_⟩
  have h : (ft Γ' S1).bind (lccK (fe Γ') S1) = .ok o S' := h
  obtain ⟨z, S3, h1, h2⟩ := Out.bind_ok' h
  unfold lccK at h2
  obtain ⟨rfl, h2⟩ := need_okC h2
  intro s H0 Cc cl fp
  have sc1 := sc Γ' S3 s H0 Cc cl fp
  rw [h1] at sc1
  refine (sc1 (by simp) σ2 F2 H2 μ2 rel2 st2 .ok).mono fun b H3 ⟨eb, F3, μ3, g3, st3⟩ => ?_
  subst eb
  cases b with
  | true =>
    rw [if_pos rfl]
    have h2 : lcF (fe Γ') S3 = .ok o S' := h2
    exact lc_elt (se _ S3) h2 (rel2.gr g3) st3 fun wy e y F4 H4 μ4 g4 s4 r4 => hy wy e y F4 H4 μ4 (g3.trans g4) s4 r4
  | false =>
    rw [if_neg (by decide)]
    cases h2
    exact hn rfl F3 H3 μ3 g3 st3
theorem ns_map {g1 g2 : Tg} {t1 t2 : Expr} {scope : Scope} (h1 : okG M scope g1 t1 = true) (h2 : okG M scope g2 t2 = true) : (ownG g1 t1 ++ ownG g2 t2).map (·.2) = g1.ns ++ g2.ns := by
  rw [List.map_append, ownG_map h1, ownG_map h2]
theorem snd_lc2 (C : Cok X M T Z lv) {elt iter iter1 t1 t2 : Expr} {pos : Pos} {scope : Scope} {g1 g2 : Tg} {oi : Out W} {it2 fe : Env' → Sto → Out W} (h1 : okG M scope g1 t1 = true) (h2 : okG M scope g2 t2 = true) (hk : BlkOk X.N X.env.scope scope (ownG g1 t1 ++ ownG g2 t2)) (hn : noSet0 iter = true) (hn1 : noSet0 iter1 = true) (he : enT t1 iter = true) (he1 : enT t2 iter1 = true) (si : SndI X (kx X Z) Γ S iter oi) (si2 : ∀ Γ' S1, SndBI X Z scope Γ' S1 iter1 (it2 Γ' S1)) (se : ∀ Γ' S1, SndB X Z scope Γ' S1 elt (fe Γ' S1)) :
    SndE X (kx X Z) Γ S (.ListComp elt [⟨t1, iter, [], 0⟩, ⟨t2, iter1, [], 0⟩] scope pos) (oi.bind (lc2E (g1.ns ++ g2.ns) g1 it2 (lc2f g2 fe) Γ)) := by
  intro hb σ F H μ rel st er
  have p := pe_lc2 (elt := elt) (iter := iter) (iter1 := iter1) (vs1 := g2.ns) (pos := pos) C.calm C.nd WI.pi hk (by rw [ns_map h1 h2]; exact fun i hi => List.mem_append_right _ hi) (blk_G C h1) (fun _ _ _ _ _ => pts_nil) wiB_pi (blk_G C h2) (fun _ _ _ _ _ => pts_nil) teB_pe (foldedSet_of0 hn) (fun env => foldedSet_of0 hn1)
  rw [ns_map h1 h2] at p
  refine .of p ?_
  exact rd_lc2 si si2 (enT_of he) (enT_of he1) (fun S1 Γ1 d o S' h => step_lc2 se S1 Γ1 d o S' h) hb rel st er fun v H' q => q
theorem snd_lc2c (C : Cok X M T Z lv) {elt iter iter1 t1 t2 c : Expr} {pos : Pos} {scope : Scope} {g1 g2 : Tg} {oi : Out W} {it2 fe : Env' → Sto → Out W} {ft : Env' → Sto → Out Bool} (h1 : okG M scope g1 t1 = true) (h2 : okG M scope g2 t2 = true) (hk : BlkOk X.N X.env.scope scope (ownG g1 t1 ++ ownG g2 t2)) (hn : noSet0 iter = true) (hn1 : noSet0 iter1 = true) (he : enT t1 iter = true) (he1 : enT t2 iter1 = true) (si : SndI X (kx X Z) Γ S iter oi) (si2 : ∀ Γ' S1, SndBI X Z scope Γ' S1 iter1 (it2 Γ' S1)) (se : ∀ Γ' S1, SndB X Z scope Γ' S1 elt (fe Γ' S1)) (sc : ∀ Γ' S1, SndBT X Z scope Γ' S1 c (ft Γ' S1)) :
    SndE X (kx X Z) Γ S (.ListComp elt [⟨t1, iter, [], 0⟩, ⟨t2, iter1, [c], 0⟩] scope pos) (oi.bind (lc2E (g1.ns ++ g2.ns) g1 it2 (lc2fc g2 ft fe) Γ)) := by
  intro hb σ F H μ rel st er
  have p := pe_lc2 (elt := elt) (iter := iter) (iter1 := iter1) (vs1 := g2.ns) (pos := pos) C.calm C.nd WI.pi hk (by rw [ns_map h1 h2]; exact fun i hi => List.mem_append_right _ hi) (blk_G C h1) (fun _ _ _ _ _ => pts_nil) wiB_pi (blk_G C h2) (fun s H Cc cl fp => pts_one (ttB_pt (e := c) s H Cc cl fp)) teB_pe (foldedSet_of0 hn) (fun env => foldedSet_of0 hn1)
  rw [ns_map h1 h2] at p
  refine .of p ?_
  exact rd_lc2 si si2 (enT_of he) (enT_of he1) (fun S1 Γ1 d o S' h => step_lc2c se sc S1 Γ1 d o S' h) hb rel st er fun v H' q => q
end
end NV

namespace NV
open PySem L2
section
variable {M : Nm} {sc : Scope} {e : Expr}
theorem iv_var {i : Nat} (h : okE M sc (.var i) e = true) : ∃ x p, e = .Name x p ∧ (visB sc x && decide (M.N[i]? = some x) && nmB x) = true := by
  cases e <;> first | exact Bool.noConfusion h | exact ⟨_, _, rfl, h⟩
theorem iv_glo {i : Nat} (h : okE M sc (.glo i) e = true) : ∃ x p, e = .Name x p ∧ (glB sc x && decide (M.cs i = some x) && nmB x) = true := by
  cases e <;> first | exact Bool.noConfusion h | exact ⟨_, _, rfl, h⟩
theorem iv_int {i : Int} (h : okE M sc (.int i) e = true) : ∃ a b, e = .Constant (.int i) a b := by
  cases e with
  | Constant c a b =>
    cases c with
    | int j => have h : decide (i = j) = true := h; simp at h; subst h; exact ⟨_, _, rfl⟩
    | _ => exact Bool.noConfusion h
  | _ => exact Bool.noConfusion h
theorem iv_str {i : Str} (h : okE M sc (.str i) e = true) : ∃ a b, e = .Constant (.str i) a b := by
  cases e with
  | Constant c a b =>
    cases c with
    | str j => have h : decide (i = j) = true := h; simp at h; subst h; exact ⟨_, _, rfl⟩
    | _ => exact Bool.noConfusion h
  | _ => exact Bool.noConfusion h
theorem iv_bl {i : Bool} (h : okE M sc (.bl i) e = true) : ∃ a b, e = .Constant (.bool i) a b := by
  cases e with
  | Constant c a b =>
    cases c with
    | bool j => have h : decide (i = j) = true := h; simp at h; subst h; exact ⟨_, _, rfl⟩
    | _ => exact Bool.noConfusion h
  | _ => exact Bool.noConfusion h
theorem iv_non (h : okE M sc .non e = true) : ∃ a b, e = .Constant .none a b := by
  cases e with
  | Constant c a b =>
    cases c with
    | none => exact ⟨_, _, rfl⟩
    | _ => exact Bool.noConfusion h
  | _ => exact Bool.noConfusion h
theorem iv_bin {op : BO} {a b : CE} (h : okE M sc (.bin op a b) e = true) : ∃ x o y p, e = .BinOp x o y p ∧ (decide (bOp op = o) && okE M sc a x && okE M sc b y) = true := by
  cases e <;> first | exact Bool.noConfusion h | exact ⟨_, _, _, _, rfl, h⟩
theorem iv_neg {a : CE} (h : okE M sc (.neg a) e = true) : ∃ x p, e = .UnaryOp .USub x p ∧ okE M sc a x = true := by
  cases e with
  | UnaryOp o x p => cases o <;> first | exact Bool.noConfusion h | exact ⟨_, _, rfl, h⟩
  | _ => exact Bool.noConfusion h
theorem iv_notv {a : CE} (h : okE M sc (.notv a) e = true) : ∃ x p, e = .UnaryOp .Not x p ∧ okE M sc a x = true := by
  cases e with
  | UnaryOp o x p => cases o <;> first | exact Bool.noConfusion h | exact ⟨_, _, rfl, h⟩
  | _ => exact Bool.noConfusion h
theorem iv_andv {a b : CE} (h : okE M sc (.andv a b) e = true) : (∃ x y p, e = .BoolOp .And [x, y] p ∧ (okE M sc a x && okE M sc b y) = true) ∨ ∃ x y z r p, e = .BoolOp .And (x :: y :: z :: r) p ∧ (okE M sc a x && okE M sc b (.BoolOp .And (y :: z :: r) p)) = true := by
  cases e with
  | BoolOp o vs p =>
    cases o with
    | And =>
      match vs, h with
      | [], h => exact Bool.noConfusion h
      | [x], h => exact Bool.noConfusion h
      | [x, y], h => exact .inl ⟨_, _, _, rfl, h⟩
      | x :: y :: z :: r, h => exact .inr ⟨_, _, _, _, _, rfl, h⟩
    | Or => exact Bool.noConfusion h
  | _ => exact Bool.noConfusion h
theorem iv_orv {a b : CE} (h : okE M sc (.orv a b) e = true) : (∃ x y p, e = .BoolOp .Or [x, y] p ∧ (okE M sc a x && okE M sc b y) = true) ∨ ∃ x y z r p, e = .BoolOp .Or (x :: y :: z :: r) p ∧ (okE M sc a x && okE M sc b (.BoolOp .Or (y :: z :: r) p)) = true := by
  cases e with
  | BoolOp o vs p =>
    cases o with
    | Or =>
      match vs, h with
      | [], h => exact Bool.noConfusion h
      | [x], h => exact Bool.noConfusion h
      | [x, y], h => exact .inl ⟨_, _, _, rfl, h⟩
      | x :: y :: z :: r, h => exact .inr ⟨_, _, _, _, _, rfl, h⟩
    | And => exact Bool.noConfusion h
  | _ => exact Bool.noConfusion h
theorem iv_cmp {op : CO} {a b : CE} (h : okE M sc (.cmp op a b) e = true) : ∃ x o y p, e = .Compare x [o] [y] p ∧ (decide (cOp op = o) && okE M sc a x && okE M sc b y && noSet y) = true := by
  cases e with
  | Compare x os ys p =>
    match os, ys, h with
    | [o], [y], h => exact ⟨_, _, _, _, rfl, h⟩
    | [], _, h => exact Bool.noConfusion h
    | [o], [], h => exact Bool.noConfusion h
    | [o], _ :: _ :: _, h => exact Bool.noConfusion h
    | _ :: _ :: _, _, h => exact Bool.noConfusion h
  | _ => exact Bool.noConfusion h
theorem iv_chain {o1 o2 : CO} {a b c : CE} (h : okE M sc (.chain o1 o2 a b c) e = true) : ∃ x p1 p2 y z p, e = .Compare x [p1, p2] [y, z] p ∧ (decide (cOp o1 = p1) && decide (cOp o2 = p2) && okE M sc a x && okE M sc b y && okE M sc c z && noSet y && noSet z) = true := by
  cases e with
  | Compare x os ys p =>
    match os, ys, h with
    | [_, _], [_, _], h => exact ⟨_, _, _, _, _, _, rfl, h⟩
    | [], _, h => exact Bool.noConfusion h
    | [_], _, h => exact Bool.noConfusion h
    | [_, _], [], h => exact Bool.noConfusion h
    | [_, _], [_], h => exact Bool.noConfusion h
    | [_, _], _ :: _ :: _ :: _, h => exact Bool.noConfusion h
    | _ :: _ :: _ :: _, _, h => exact Bool.noConfusion h
  | _ => exact Bool.noConfusion h
theorem iv_ifx {t : CT} {a b : CE} (h : okE M sc (.ifx t a b) e = true) : ∃ c x y p, e = .IfExp c x y p ∧ (okT' M sc t c && okE M sc a x && okE M sc b y) = true := by
  cases e <;> first | exact Bool.noConfusion h | exact ⟨_, _, _, _, rfl, h⟩
theorem iv_tup {l : CL} (h : okE M sc (.tup l) e = true) : ∃ es a b, e = .Tuple es a b ∧ okL M sc l es = true := by
  cases e <;> first | exact Bool.noConfusion h | exact ⟨_, _, _, rfl, h⟩
theorem iv_lst {l : CL} (h : okE M sc (.lst l) e = true) : ∃ es b, e = .List es b ∧ okL M sc l es = true := by
  cases e <;> first | exact Bool.noConfusion h | exact ⟨_, _, rfl, h⟩
theorem iv_idx {a b : CE} (h : okE M sc (.idx a b) e = true) : ∃ x y p, e = .Subscript x y p ∧ (okE M sc a x && okE M sc b y && noSlice y) = true := by
  cases e <;> first | exact Bool.noConfusion h | exact ⟨_, _, _, rfl, h⟩
theorem iv_sli {a : CE} {lo hi : CP} (h : okE M sc (.sli a lo hi) e = true) : ∃ x l u p q, e = .Subscript x (.Slice l u none q) p ∧ (okE M sc a x && okP M sc lo l && okP M sc hi u) = true := by
  cases e with
  | Subscript x y p =>
    cases y with
    | Slice l u s q =>
      cases s with
      | none => exact ⟨_, _, _, _, _, rfl, h⟩
      | some _ => exact Bool.noConfusion h
    | _ => exact Bool.noConfusion h
  | _ => exact Bool.noConfusion h
theorem iv_frz {a : CE} (h : okE M sc (.frz a) e = true) : okE M sc a e = true := by
  cases e <;> exact h
theorem iv_call {f : Nat} {l : CL} {ds : List Df} (h : okE M sc (.call f l ds) e = true) : ∃ x p es q, e = .Call (.Name x p) es [] q ∧ (glB sc x && decide (M.fs f = some x) && nmB x && okL M sc l es && es.all noStar && decide (M.df f es.length = ds)) = true := by
  cases e with
  | Call g es ks q =>
    cases g with
    | Name x p =>
      cases ks with
      | nil => exact ⟨_, _, _, _, rfl, h⟩
      | cons _ _ => exact Bool.noConfusion h
    | _ => exact Bool.noConfusion h
  | _ => exact Bool.noConfusion h
theorem iv_calL {f : Nat} {l : CL} {ds : List Df} (h : okE M sc (.calL f l ds) e = true) : ∃ x p es q, e = .Call (.Name x p) es [] q ∧ (glB sc x && decide (M.fs f = some x) && nmB x && okL M sc l es && es.all noStar && decide (M.df f es.length = ds)) = true := by
  cases e with
  | Call g es ks q =>
    cases g with
    | Name x p =>
      cases ks with
      | nil => exact ⟨_, _, _, _, rfl, h⟩
      | cons _ _ => exact Bool.noConfusion h
    | _ => exact Bool.noConfusion h
  | _ => exact Bool.noConfusion h
theorem iv_mk {c f : Nat} {l : CL} {ds : List Df} (h : okE M sc (.mk c f l ds) e = true) : ∃ x p es q, e = .Call (.Name x p) es [] q ∧ (glB sc x && decide (M.cl c = some x) && decide (M.ini c = some f) && nmB x && okL M sc l es && es.all noStar && decide (M.df f (es.length + 1) = ds)) = true := by
  cases e with
  | Call g es ks q =>
    cases g with
    | Name x p =>
      cases ks with
      | nil => exact ⟨_, _, _, _, rfl, h⟩
      | cons _ _ => exact Bool.noConfusion h
    | _ => exact Bool.noConfusion h
  | _ => exact Bool.noConfusion h
theorem iv_fld {o : CE} {a : Str} (h : okE M sc (.fld o a) e = true) : ∃ x nm p, e = .Attribute x nm p ∧ (decide (a = nm) && okE M sc o x && noSuper x) = true := by
  cases e <;> first | exact Bool.noConfusion h | exact ⟨_, _, _, rfl, h⟩
theorem iv_prp {o : CE} {a : Str} (h : okE M sc (.prp o a) e = true) : ∃ x nm p, e = .Attribute x nm p ∧ (decide (a = nm) && okE M sc o x && noSuper x) = true := by
  cases e <;> first | exact Bool.noConfusion h | exact ⟨_, _, _, rfl, h⟩
theorem iv_con {o : CE} {a : Str} (h : okE M sc (.con o a) e = true) : ∃ x nm p, e = .Attribute x nm p ∧ (decide (a = nm) && okE M sc o x && noSuper x) = true := by
  cases e <;> first | exact Bool.noConfusion h | exact ⟨_, _, _, rfl, h⟩
theorem iv_mth {o : CE} {m : Str} {l : CL} {ds : List Df} (h : okE M sc (.mth o m l ds) e = true) : ∃ x nm ap es q, e = .Call (.Attribute x nm ap) es [] q ∧ (decide (m = nm) && okE M sc o x && noSuper x && okL M sc l es && es.all noStar && decide (es.length < 30) && (ap.endLine == q.line) && decide (ds = [])) = true := by
  cases e with
  | Call g es ks q =>
    cases g with
    | Attribute x nm ap =>
      cases ks with
      | nil => exact ⟨_, _, _, _, _, rfl, h⟩
      | cons _ _ => exact Bool.noConfusion h
    | _ => exact Bool.noConfusion h
  | _ => exact Bool.noConfusion h
theorem iv_mtL {o : CE} {m : Str} {l : CL} {ds : List Df} (h : okE M sc (.mtL o m l ds) e = true) : ∃ x nm ap es q, e = .Call (.Attribute x nm ap) es [] q ∧ (decide (m = nm) && okE M sc o x && noSuper x && okL M sc l es && es.all noStar && decide (es.length < 30) && (ap.endLine == q.line) && decide (ds = [])) = true := by
  cases e with
  | Call g es ks q =>
    cases g with
    | Attribute x nm ap =>
      cases ks with
      | nil => exact ⟨_, _, _, _, _, rfl, h⟩
      | cons _ _ => exact Bool.noConfusion h
    | _ => exact Bool.noConfusion h
  | _ => exact Bool.noConfusion h
theorem iv_bi {b : Bi} {a : CE} (h : okE M sc (.bi b a) e = true) : ∃ x p y q, e = .Call (.Name x p) [y] [] q ∧ (glB sc x && decide (biN b = x) && okE M sc a y && noStar y) = true := by
  cases e with
  | Call g es ks q =>
    cases g with
    | Name x p =>
      match es, ks, h with
      | [y], [], h => exact ⟨_, _, _, _, rfl, h⟩
      | [], _, h => exact Bool.noConfusion h
      | [_], _ :: _, h => exact Bool.noConfusion h
      | _ :: _ :: _, _, h => exact Bool.noConfusion h
    | _ => exact Bool.noConfusion h
  | _ => exact Bool.noConfusion h
theorem iv_bj {b : Bj} {a c : CE} (h : okE M sc (.bj b a c) e = true) : ∃ x p y z q, e = .Call (.Name x p) [y, z] [] q ∧ (glB sc x && decide (bjN b = x) && okE M sc a y && okE M sc c z && noStar y && noStar z) = true := by
  cases e with
  | Call g es ks q =>
    cases g with
    | Name x p =>
      match es, ks, h with
      | [y, z], [], h => exact ⟨_, _, _, _, _, rfl, h⟩
      | [], _, h => exact Bool.noConfusion h
      | [_], _, h => exact Bool.noConfusion h
      | [_, _], _ :: _, h => exact Bool.noConfusion h
      | _ :: _ :: _ :: _, _, h => exact Bool.noConfusion h
    | _ => exact Bool.noConfusion h
  | _ => exact Bool.noConfusion h
theorem rg2_iv {p : Expr × Expr} (h : rg2 sc e = some p) : ∃ p1 q, e = .Call (.Name "range" p1) [p.1, p.2] [] q ∧ glB sc "range" = true ∧ noStar p.1 = true ∧ noStar p.2 = true := by
  unfold rg2 at h
  split at h
  · split at h
    · rename_i c
      simp only [Bool.and_eq_true, decide_eq_true_eq] at c
      obtain ⟨⟨⟨c1, rfl⟩, c2⟩, c3⟩ := c
      cases h
      exact ⟨_, _, rfl, c1, c2, c3⟩
    · cases h
  · cases h
theorem iv_lrg {a b : CE} (h : okE M sc (.lrg a b) e = true) : ∃ x p z q, e = .Call (.Name x p) [z] [] q ∧ (match rg2 sc z with
    | some p => glB sc x && decide (("list" : Str) = x) && okE M sc a p.1 && okE M sc b p.2
    | none => false) = true := by
  cases e with
  | Call g es ks q =>
    cases g with
    | Name x p =>
      match es, ks, h with
      | [y], [], h => exact ⟨_, _, _, _, rfl, h⟩
      | [], _, h => exact Bool.noConfusion h
      | [_], _ :: _, h => exact Bool.noConfusion h
      | _ :: _ :: _, _, h => exact Bool.noConfusion h
    | _ => exact Bool.noConfusion h
  | _ => exact Bool.noConfusion h
theorem iv_isi {a : CE} {t : Ty} (h : okE M sc (.isi a t) e = true) : ∃ x p y z pz q, e = .Call (.Name x p) [y, .Name z pz] [] q ∧ (glB sc x && decide (("isinstance" : Str) = x) && okE M sc a y && noStar y && glB sc z && decide (tyN t = z)) = true := by
  cases e with
  | Call g es ks q =>
    cases g with
    | Name x p =>
      match es, ks, h with
      | [y, z], [], h => cases z <;> first | exact Bool.noConfusion h | exact ⟨_, _, _, _, _, _, rfl, h⟩
      | [], _, h => exact Bool.noConfusion h
      | [_], _, h => exact Bool.noConfusion h
      | [_, z], _ :: _, h => cases z <;> exact Bool.noConfusion h
      | _ :: z :: _ :: _, _, h => cases z <;> exact Bool.noConfusion h
    | _ => exact Bool.noConfusion h
  | _ => exact Bool.noConfusion h
theorem iv_isc {a : CE} {c : Nat} (h : okE M sc (.isc a c) e = true) : ∃ x p y z pz q, e = .Call (.Name x p) [y, .Name z pz] [] q ∧ (glB sc x && decide (("isinstance" : Str) = x) && okE M sc a y && noStar y && glB sc z && decide (M.cl c = some z) && nmB z) = true := by
  cases e with
  | Call g es ks q =>
    cases g with
    | Name x p =>
      match es, ks, h with
      | [y, z], [], h => cases z <;> first | exact Bool.noConfusion h | exact ⟨_, _, _, _, _, _, rfl, h⟩
      | [], _, h => exact Bool.noConfusion h
      | [_], _, h => exact Bool.noConfusion h
      | [_, z], _ :: _, h => cases z <;> exact Bool.noConfusion h
      | _ :: z :: _ :: _, _, h => cases z <;> exact Bool.noConfusion h
    | _ => exact Bool.noConfusion h
  | _ => exact Bool.noConfusion h
theorem iv_mt1 {m : Mt} {o a : CE} (h : okE M sc (.mt1 m o a) e = true) : ∃ x nm ap y q, e = .Call (.Attribute x nm ap) [y] [] q ∧ (decide (m ≠ .starts) && decide (mtN m = nm) && okE M sc o x && okE M sc a y && noStar y && noSuper x && (ap.endLine == q.line)) = true := by
  cases e with
  | Call g es ks q =>
    cases g with
    | Attribute x nm ap =>
      match es, ks, h with
      | [y], [], h => exact ⟨_, _, _, _, _, rfl, h⟩
      | [], _, h => exact Bool.noConfusion h
      | [_], _ :: _, h => exact Bool.noConfusion h
      | _ :: _ :: _, _, h => exact Bool.noConfusion h
    | _ => exact Bool.noConfusion h
  | _ => exact Bool.noConfusion h
theorem iv_lc {e' : CE} {i : Nat} {s : CI} (h : okE M sc (.lc e' i s) e = true) : ∃ elt x p iter scope q, e = .ListComp elt [⟨.Name x p, iter, [], 0⟩] scope q ∧
    (decide (M.N[i]? = some x) && locB scope x && blkC M.N sc scope [(x, i)] && okI M sc s iter && noSet iter && okE M (relS scope sc) e' elt) = true := by
  cases e with
  | ListComp elt gs scope q =>
    match gs, h with
    | [⟨tg, iter, ifs, as⟩], h =>
      cases tg with
      | Name x p =>
        match ifs, h with
        | [], h =>
          have h : (decide (as = 0) && decide (M.N[i]? = some x) && locB scope x && blkC M.N sc scope [(x, i)] && okI M sc s iter && noSet iter && okE M (relS scope sc) e' elt) = true := h
          simp only [Bool.and_eq_true, decide_eq_true_eq] at h
          obtain ⟨⟨⟨⟨⟨⟨rfl, h1⟩, h2⟩, h3⟩, h4⟩, h5⟩, h6⟩ := h
          exact ⟨_, _, _, _, _, _, rfl, by simp [h1, h2, h3, h4, h5, h6]⟩
        | _ :: _, h => exact Bool.noConfusion h
      | _ => exact Bool.noConfusion h
    | [], h => exact Bool.noConfusion h
    | ⟨tg, it, ifs, as⟩ :: _ :: _, h => cases tg <;> first | exact Bool.noConfusion h | (match ifs, h with
        | [], h => exact Bool.noConfusion h
        | [_], h => exact Bool.noConfusion h
        | _ :: _ :: _, h => exact Bool.noConfusion h)
  | _ => exact Bool.noConfusion h
theorem iv_lcc {e' : CE} {i : Nat} {s : CI} {t : CT} (h : okE M sc (.lcc e' i s t) e = true) : ∃ elt x p iter c scope q, e = .ListComp elt [⟨.Name x p, iter, [c], 0⟩] scope q ∧
    (decide (M.N[i]? = some x) && locB scope x && blkC M.N sc scope [(x, i)] && okI M sc s iter && noSet iter && okE M (relS scope sc) e' elt && okT' M (relS scope sc) t c) = true := by
  cases e with
  | ListComp elt gs scope q =>
    match gs, h with
    | [⟨tg, iter, ifs, as⟩], h =>
      cases tg with
      | Name x p =>
        match ifs, h with
        | [c], h =>
          have h : (decide (as = 0) && decide (M.N[i]? = some x) && locB scope x && blkC M.N sc scope [(x, i)] && okI M sc s iter && noSet iter && okE M (relS scope sc) e' elt && okT' M (relS scope sc) t c) = true := h
          simp only [Bool.and_eq_true, decide_eq_true_eq] at h
          obtain ⟨⟨⟨⟨⟨⟨⟨rfl, h1⟩, h2⟩, h3⟩, h4⟩, h5⟩, h6⟩, h7⟩ := h
          exact ⟨_, _, _, _, _, _, _, rfl, by simp [h1, h2, h3, h4, h5, h6, h7]⟩
        | [], h => exact Bool.noConfusion h
        | _ :: _ :: _, h => exact Bool.noConfusion h
      | _ => exact Bool.noConfusion h
    | [], h => exact Bool.noConfusion h
    | ⟨tg, it, ifs, as⟩ :: _ :: _, h => cases tg <;> first | exact Bool.noConfusion h | (match ifs, h with
        | [], h => exact Bool.noConfusion h
        | [_], h => exact Bool.noConfusion h
        | _ :: _ :: _, h => exact Bool.noConfusion h)
  | _ => exact Bool.noConfusion h
theorem iv_lcu {e' : CE} {is : List Nat} {s : CI} (h : okE M sc (.lcu e' is s) e = true) : ∃ elt ts kk p iter scope q, e = .ListComp elt [⟨.Tuple ts kk p, iter, [], 0⟩] scope q ∧
    (okU M scope is ts && blkC M.N sc scope (ownU is ts) && okI M sc s iter && noSet0 iter && okE M (relS scope sc) e' elt) = true := by
  cases e with
  | ListComp elt gs scope q =>
    match gs, h with
    | [⟨tg, iter, ifs, as⟩], h =>
      cases tg with
      | Tuple ts kk p =>
        match ifs, h with
        | [], h =>
          have h : (decide (as = 0) && okU M scope is ts && blkC M.N sc scope (ownU is ts) && okI M sc s iter && noSet0 iter && okE M (relS scope sc) e' elt) = true := h
          simp only [Bool.and_eq_true, decide_eq_true_eq] at h
          obtain ⟨⟨⟨⟨⟨rfl, h1⟩, h2⟩, h3⟩, h4⟩, h5⟩ := h
          exact ⟨_, _, _, _, _, _, _, rfl, by simp [h1, h2, h3, h4, h5]⟩
        | _ :: _, h => exact Bool.noConfusion h
      | _ => exact Bool.noConfusion h
    | [], h => exact Bool.noConfusion h
    | ⟨tg, it, ifs, as⟩ :: _ :: _, h => cases tg <;> first | exact Bool.noConfusion h | (match ifs, h with
        | [], h => exact Bool.noConfusion h
        | [_], h => exact Bool.noConfusion h
        | _ :: _ :: _, h => exact Bool.noConfusion h)
  | _ => exact Bool.noConfusion h
theorem iv_lccu {e' : CE} {is : List Nat} {s : CI} {t : CT} (h : okE M sc (.lccu e' is s t) e = true) : ∃ elt ts kk p iter c scope q, e = .ListComp elt [⟨.Tuple ts kk p, iter, [c], 0⟩] scope q ∧
    (okU M scope is ts && blkC M.N sc scope (ownU is ts) && okI M sc s iter && noSet0 iter && okE M (relS scope sc) e' elt && okT' M (relS scope sc) t c) = true := by
  cases e with
  | ListComp elt gs scope q =>
    match gs, h with
    | [⟨tg, iter, ifs, as⟩], h =>
      cases tg with
      | Tuple ts kk p =>
        match ifs, h with
        | [c], h =>
          have h : (decide (as = 0) && okU M scope is ts && blkC M.N sc scope (ownU is ts) && okI M sc s iter && noSet0 iter && okE M (relS scope sc) e' elt && okT' M (relS scope sc) t c) = true := h
          simp only [Bool.and_eq_true, decide_eq_true_eq] at h
          obtain ⟨⟨⟨⟨⟨⟨rfl, h1⟩, h2⟩, h3⟩, h4⟩, h5⟩, h6⟩ := h
          exact ⟨_, _, _, _, _, _, _, _, rfl, by simp [h1, h2, h3, h4, h5, h6]⟩
        | [], h => exact Bool.noConfusion h
        | _ :: _ :: _, h => exact Bool.noConfusion h
      | _ => exact Bool.noConfusion h
    | [], h => exact Bool.noConfusion h
    | ⟨tg, it, ifs, as⟩ :: _ :: _, h => cases tg <;> first | exact Bool.noConfusion h | (match ifs, h with
        | [], h => exact Bool.noConfusion h
        | [_], h => exact Bool.noConfusion h
        | _ :: _ :: _, h => exact Bool.noConfusion h)
  | _ => exact Bool.noConfusion h
theorem iv_lc2 {e' : CE} {g1 g2 : Tg} {s1 s2 : CI} (h : okE M sc (.lc2 e' g1 s1 g2 s2) e = true) : ∃ elt t1 iter t2 iter1 scope q, e = .ListComp elt [⟨t1, iter, [], 0⟩, ⟨t2, iter1, [], 0⟩] scope q ∧
    (okG M scope g1 t1 && okG M scope g2 t2 && blkC M.N sc scope (ownG g1 t1 ++ ownG g2 t2) && okI M sc s1 iter && enT t1 iter && noSet0 iter && okI M (relS scope sc) s2 iter1 && enT t2 iter1 && noSet0 iter1 && okE M (relS scope sc) e' elt) = true := by
  cases e with
  | ListComp elt gs scope q =>
    match gs, h with
    | [⟨t1, iter, [], a1⟩, ⟨t2, iter1, [], a2⟩], h =>
      have h : (decide (a1 = 0) && decide (a2 = 0) && okG M scope g1 t1 && okG M scope g2 t2 && blkC M.N sc scope (ownG g1 t1 ++ ownG g2 t2) && okI M sc s1 iter && enT t1 iter && noSet0 iter && okI M (relS scope sc) s2 iter1 && enT t2 iter1 && noSet0 iter1 && okE M (relS scope sc) e' elt) = true := h
      simp only [Bool.and_eq_true, decide_eq_true_eq] at h
      obtain ⟨⟨⟨⟨⟨⟨⟨⟨⟨⟨⟨rfl, rfl⟩, h1⟩, h2⟩, h3⟩, h4⟩, h5⟩, h6⟩, h7⟩, h8⟩, h9⟩, h10⟩ := h
      exact ⟨_, _, _, _, _, _, _, rfl, by simp [h1, h2, h3, h4, h5, h6, h7, h8, h9, h10]⟩
    | [], h => exact Bool.noConfusion h
    | [⟨_, _, [], _⟩], h => exact Bool.noConfusion h
    | [⟨_, _, _ :: _, _⟩], h => exact Bool.noConfusion h
    | ⟨_, _, _ :: _, _⟩ :: _ :: _, h => exact Bool.noConfusion h
    | [⟨_, _, [], _⟩, ⟨_, _, _ :: _, _⟩], h => exact Bool.noConfusion h
    | ⟨_, _, [], _⟩ :: ⟨_, _, [], _⟩ :: _ :: _, h => exact Bool.noConfusion h
    | ⟨_, _, [], _⟩ :: ⟨_, _, _ :: _, _⟩ :: _ :: _, h => exact Bool.noConfusion h
  | _ => exact Bool.noConfusion h
theorem iv_lc2c {e' : CE} {g1 g2 : Tg} {s1 s2 : CI} {t : CT} (h : okE M sc (.lc2c e' g1 s1 g2 s2 t) e = true) : ∃ elt t1 iter t2 iter1 c scope q, e = .ListComp elt [⟨t1, iter, [], 0⟩, ⟨t2, iter1, [c], 0⟩] scope q ∧
    (okG M scope g1 t1 && okG M scope g2 t2 && blkC M.N sc scope (ownG g1 t1 ++ ownG g2 t2) && okI M sc s1 iter && enT t1 iter && noSet0 iter && okI M (relS scope sc) s2 iter1 && enT t2 iter1 && noSet0 iter1 && okE M (relS scope sc) e' elt && okT' M (relS scope sc) t c) = true := by
  cases e with
  | ListComp elt gs scope q =>
    match gs, h with
    | [⟨t1, iter, [], a1⟩, ⟨t2, iter1, [c], a2⟩], h =>
      have h : (decide (a1 = 0) && decide (a2 = 0) && okG M scope g1 t1 && okG M scope g2 t2 && blkC M.N sc scope (ownG g1 t1 ++ ownG g2 t2) && okI M sc s1 iter && enT t1 iter && noSet0 iter && okI M (relS scope sc) s2 iter1 && enT t2 iter1 && noSet0 iter1 && okE M (relS scope sc) e' elt && okT' M (relS scope sc) t c) = true := h
      simp only [Bool.and_eq_true, decide_eq_true_eq] at h
      obtain ⟨⟨⟨⟨⟨⟨⟨⟨⟨⟨⟨⟨rfl, rfl⟩, h1⟩, h2⟩, h3⟩, h4⟩, h5⟩, h6⟩, h7⟩, h8⟩, h9⟩, h10⟩, h11⟩ := h
      exact ⟨_, _, _, _, _, _, _, _, rfl, by simp [h1, h2, h3, h4, h5, h6, h7, h8, h9, h10, h11]⟩
    | [], h => exact Bool.noConfusion h
    | [⟨_, _, [], _⟩], h => exact Bool.noConfusion h
    | [⟨_, _, _ :: _, _⟩], h => exact Bool.noConfusion h
    | ⟨_, _, _ :: _, _⟩ :: _ :: _, h => exact Bool.noConfusion h
    | [⟨_, _, [], _⟩, ⟨_, _, [], _⟩], h => exact Bool.noConfusion h
    | [⟨_, _, [], _⟩, ⟨_, _, _ :: _ :: _, _⟩], h => exact Bool.noConfusion h
    | ⟨_, _, [], _⟩ :: ⟨_, _, [], _⟩ :: _ :: _, h => exact Bool.noConfusion h
    | ⟨_, _, [], _⟩ :: ⟨_, _, [_], _⟩ :: _ :: _, h => exact Bool.noConfusion h
    | ⟨_, _, [], _⟩ :: ⟨_, _, _ :: _ :: _, _⟩ :: _ :: _, h => exact Bool.noConfusion h
  | _ => exact Bool.noConfusion h
theorem ivt_e {c : CE} (h : okT' M sc (.e c) e = true) : plainT e = true ∧ okE M sc c e = true := by
  have h : (plainT e && okE M sc c e) = true := by cases e <;> exact h
  simpa using h
theorem ivt_cmp {op : CO} {a b : CE} (h : okT' M sc (.cmp op a b) e = true) : ∃ x o y p, e = .Compare x [o] [y] p ∧ (decide (cOp op = o) && okE M sc a x && okE M sc b y && noSet y) = true := by
  cases e with
  | Compare x os ys p =>
    match os, ys, h with
    | [o], [y], h => exact ⟨_, _, _, _, rfl, h⟩
    | [], _, h => exact Bool.noConfusion h
    | [o], [], h => exact Bool.noConfusion h
    | [o], _ :: _ :: _, h => exact Bool.noConfusion h
    | _ :: _ :: _, _, h => exact Bool.noConfusion h
  | _ => exact Bool.noConfusion h
theorem ivt_chain {o1 o2 : CO} {a b c : CE} (h : okT' M sc (.chain o1 o2 a b c) e = true) : ∃ x p1 p2 y z p, e = .Compare x [p1, p2] [y, z] p ∧ (decide (cOp o1 = p1) && decide (cOp o2 = p2) && okE M sc a x && okE M sc b y && okE M sc c z && noSet y && noSet z) = true := by
  cases e with
  | Compare x os ys p =>
    match os, ys, h with
    | [_, _], [_, _], h => exact ⟨_, _, _, _, _, _, rfl, h⟩
    | [], _, h => exact Bool.noConfusion h
    | [_], _, h => exact Bool.noConfusion h
    | [_, _], [], h => exact Bool.noConfusion h
    | [_, _], [_], h => exact Bool.noConfusion h
    | [_, _], _ :: _ :: _ :: _, h => exact Bool.noConfusion h
    | _ :: _ :: _ :: _, _, h => exact Bool.noConfusion h
  | _ => exact Bool.noConfusion h
theorem ivt_and {a b : CT} (h : okT' M sc (.and a b) e = true) : (∃ x y p, e = .BoolOp .And [x, y] p ∧ (okT' M sc a x && okT' M sc b y) = true) ∨ ∃ x y z r p, e = .BoolOp .And (x :: y :: z :: r) p ∧ (okT' M sc a x && okT' M sc b (.BoolOp .And (y :: z :: r) p)) = true := by
  cases e with
  | BoolOp o vs p =>
    cases o with
    | And =>
      match vs, h with
      | [], h => exact Bool.noConfusion h
      | [x], h => exact Bool.noConfusion h
      | [x, y], h => exact .inl ⟨_, _, _, rfl, h⟩
      | x :: y :: z :: r, h => exact .inr ⟨_, _, _, _, _, rfl, h⟩
    | Or => exact Bool.noConfusion h
  | _ => exact Bool.noConfusion h
theorem ivt_or {a b : CT} (h : okT' M sc (.or a b) e = true) : (∃ x y p, e = .BoolOp .Or [x, y] p ∧ (okT' M sc a x && okT' M sc b y) = true) ∨ ∃ x y z r p, e = .BoolOp .Or (x :: y :: z :: r) p ∧ (okT' M sc a x && okT' M sc b (.BoolOp .Or (y :: z :: r) p)) = true := by
  cases e with
  | BoolOp o vs p =>
    cases o with
    | Or =>
      match vs, h with
      | [], h => exact Bool.noConfusion h
      | [x], h => exact Bool.noConfusion h
      | [x, y], h => exact .inl ⟨_, _, _, rfl, h⟩
      | x :: y :: z :: r, h => exact .inr ⟨_, _, _, _, _, rfl, h⟩
    | And => exact Bool.noConfusion h
  | _ => exact Bool.noConfusion h
theorem ivt_not {a : CT} (h : okT' M sc (.not a) e = true) : ∃ x p, e = .UnaryOp .Not x p ∧ okT' M sc a x = true := by
  cases e with
  | UnaryOp o x p => cases o <;> first | exact Bool.noConfusion h | exact ⟨_, _, rfl, h⟩
  | _ => exact Bool.noConfusion h
theorem ivi_r1 {a : CE} (h : okI M sc (.r1 a) e = true) : ∃ p x q, e = .Call (.Name "range" p) [x] [] q ∧ (glB sc "range" && okE M sc a x && noStar x) = true := by
  cases e with
  | Call g es ks q =>
    cases g with
    | Name f p =>
      match es, ks, h with
      | [y], [], h =>
        have h : (glB sc f && decide (("range" : Str) = f) && okE M sc a y && noStar y) = true := h
        simp only [Bool.and_eq_true, decide_eq_true_eq] at h
        obtain ⟨⟨⟨h1, rfl⟩, h2⟩, h3⟩ := h
        exact ⟨_, _, _, rfl, by simp [h1, h2, h3]⟩
      | [], _, h => exact Bool.noConfusion h
      | [_], _ :: _, h => exact Bool.noConfusion h
      | _ :: _ :: _, _, h => exact Bool.noConfusion h
    | _ => exact Bool.noConfusion h
  | _ => exact Bool.noConfusion h
theorem ivi_r2 {a b : CE} (h : okI M sc (.r2 a b) e = true) : ∃ p x y q, e = .Call (.Name "range" p) [x, y] [] q ∧ (glB sc "range" && okE M sc a x && okE M sc b y && noStar x && noStar y) = true := by
  cases e with
  | Call g es ks q =>
    cases g with
    | Name f p =>
      match es, ks, h with
      | [x, y], [], h =>
        have h : (glB sc f && decide (("range" : Str) = f) && okE M sc a x && okE M sc b y && noStar x && noStar y) = true := h
        simp only [Bool.and_eq_true, decide_eq_true_eq] at h
        obtain ⟨⟨⟨⟨⟨h1, rfl⟩, h2⟩, h3⟩, h4⟩, h5⟩ := h
        exact ⟨_, _, _, _, rfl, by simp [h1, h2, h3, h4, h5]⟩
      | [], _, h => exact Bool.noConfusion h
      | [_], _, h => exact Bool.noConfusion h
      | [_, _], _ :: _, h => exact Bool.noConfusion h
      | _ :: _ :: _ :: _, _, h => exact Bool.noConfusion h
    | _ => exact Bool.noConfusion h
  | _ => exact Bool.noConfusion h
theorem ivi_en {a : CE} (h : okI M sc (.en a) e = true) : ∃ p x q, e = .Call (.Name "enumerate" p) [x] [] q ∧ (glB sc "enumerate" && okE M sc a x && noStar x) = true := by
  cases e with
  | Call g es ks q =>
    cases g with
    | Name f p =>
      match es, ks, h with
      | [y], [], h =>
        have h : (glB sc f && decide (("enumerate" : Str) = f) && okE M sc a y && noStar y) = true := h
        simp only [Bool.and_eq_true, decide_eq_true_eq] at h
        obtain ⟨⟨⟨h1, rfl⟩, h2⟩, h3⟩ := h
        exact ⟨_, _, _, rfl, by simp [h1, h2, h3]⟩
      | [], _, h => exact Bool.noConfusion h
      | [_], _ :: _, h => exact Bool.noConfusion h
      | _ :: _ :: _, _, h => exact Bool.noConfusion h
    | _ => exact Bool.noConfusion h
  | _ => exact Bool.noConfusion h
end
end NV

namespace NV
open PySem L2
theorem and_iff {a b : Bool} (h : (a && b) = true) : a = true ∧ b = true := by simpa using h
theorem okL_nil {M : Nm} {sc : Scope} {c : CL} (h : okL M sc c [] = true) : c = .nil := by
  cases c <;> first | rfl | exact Bool.noConfusion h
theorem evs_nil {M : Nm} {sc : Scope} {c : CL} {T : Tb} {Γ : Env'} {S : Sto} {es : List Expr} (h : okL M sc c es = true) (e : es = []) : evs T c Γ S = .ok [] S := by
  subst e
  rw [okL_nil h]
  unfold evs
  rfl
theorem evs_len {M : Nm} {sc : Scope} {T : Tb} {Γ : Env'} : ∀ {c : CL} {es : List Expr} {S S1 : Sto} {ws : List W}, okL M sc c es = true → es.all noStar = true → evs T c Γ S = .ok ws S1 → ws.length = es.length
  | .nil, es, S, S1, ws, h, ha, he => by
    cases es with
    | nil => unfold evs at he; cases he; rfl
    | cons x r => exact Bool.noConfusion h
  | .cons e l, es, S, S1, ws, h, ha, he => by
    cases es with
    | nil => exact Bool.noConfusion h
    | cons x r =>
      have h : (okE M sc e x && noStar x && okL M sc l r) = true := h
      obtain ⟨h1, h2⟩ := and_iff h
      unfold evs at he
      obtain ⟨w, S2, _, he⟩ := Out.bind_ok' he
      obtain ⟨ws', S3, he', he⟩ := Out.bind_ok' (show (evs T l Γ S2).bind (consK w) = .ok ws S1 from he)
      cases he
      simp only [List.all_cons, Bool.and_eq_true] at ha
      simp [evs_len h2 ha.2 he']
  | .star e l, es, S, S1, ws, h, ha, he => by
    cases es with
    | nil => exact Bool.noConfusion h
    | cons x r =>
      cases x with
      | Starred y p => simp [noStar] at ha
      | _ => exact Bool.noConfusion h
theorem iv_blk {M : Nm} {sc scope : Scope} {own : List (Str × Nat)} (h : blkC M.N sc scope own = true) : scope.kind = .function := (blkOk_by h).kind
section
variable {M : Nm} {T : Tb} {Z : Zt} {lv : Nat}
mutual
theorem sE : ∀ (c : CE) {X : Cx} {Γ : Env'} {S : Sto} {e : Expr}, Cok X M T Z lv → okE M X.env.scope c e = true → SndE X (kx X Z) Γ S e (ev T c Γ S)
  | .var i, X, Γ, S, e, C, hok => by
    obtain ⟨x, p, rfl, q⟩ := iv_var hok
    unfold ev
    exact snd_var C q
  | .int i, X, Γ, S, e, C, hok => by
    obtain ⟨a, b, rfl⟩ := iv_int hok
    unfold ev
    exact fun _ σ F H μ rel st _ => .of pe_int (PoW.int st)
  | .str i, X, Γ, S, e, C, hok => by
    obtain ⟨a, b, rfl⟩ := iv_str hok
    unfold ev
    exact fun _ σ F H μ rel st _ => .of pe_str (PoW.str st)
  | .bl i, X, Γ, S, e, C, hok => by
    obtain ⟨a, b, rfl⟩ := iv_bl hok
    unfold ev
    exact fun _ σ F H μ rel st _ => .of pe_bl (PoW.bl st)
  | .non, X, Γ, S, e, C, hok => by
    obtain ⟨a, b, rfl⟩ := iv_non hok
    unfold ev
    exact fun _ σ F H μ rel st _ => .of pe_non (PoW.non st)
  | .glo j, X, Γ, S, e, C, hok => by
    obtain ⟨x, p, rfl, q⟩ := iv_glo hok
    unfold ev
    exact snd_glo C q
  | .bin op a b, X, Γ, S, e, C, hok => by
    obtain ⟨x, o, y, p, rfl, q⟩ := iv_bin hok
    obtain ⟨q, q3⟩ := and_iff q
    obtain ⟨q1, q2⟩ := and_iff q
    have q1 := of_decide_eq_true q1
    subst q1
    unfold ev
    exact snd_bin C (sE a C q2) fun S1 => sE b C q3
  | .neg a, X, Γ, S, e, C, hok => by
    obtain ⟨x, p, rfl, q⟩ := iv_neg hok
    unfold ev
    exact snd_neg (sE a C q)
  | .notv a, X, Γ, S, e, C, hok => by
    obtain ⟨x, p, rfl, q⟩ := iv_notv hok
    unfold ev
    exact snd_notv C (sE a C q)
  | .andv a b, X, Γ, S, e, C, hok => by
    unfold ev
    rcases iv_andv hok with ⟨x, y, p, rfl, q⟩ | ⟨x, y, z, r, p, rfl, q⟩
    · obtain ⟨q1, q2⟩ := and_iff q
      exact snd_and C (sE a C q1) fun S1 => snd_one (sE b C q2)
    · obtain ⟨q1, q2⟩ := and_iff q
      exact snd_and C (sE a C q1) fun S1 => sE b C q2
  | .orv a b, X, Γ, S, e, C, hok => by
    unfold ev
    rcases iv_orv hok with ⟨x, y, p, rfl, q⟩ | ⟨x, y, z, r, p, rfl, q⟩
    · obtain ⟨q1, q2⟩ := and_iff q
      exact snd_or C (sE a C q1) fun S1 => snd_one (sE b C q2)
    · obtain ⟨q1, q2⟩ := and_iff q
      exact snd_or C (sE a C q1) fun S1 => sE b C q2
  | .cmp op a b, X, Γ, S, e, C, hok => by
    obtain ⟨x, o, y, p, rfl, q⟩ := iv_cmp hok
    obtain ⟨q, q4⟩ := and_iff q
    obtain ⟨q, q3⟩ := and_iff q
    obtain ⟨q1, q2⟩ := and_iff q
    have q1 := of_decide_eq_true q1
    subst q1
    unfold ev
    exact snd_cmp C q4 (sE a C q2) fun S1 => sE b C q3
  | .chain o1 o2 a b c, X, Γ, S, e, C, hok => by
    obtain ⟨x, p1, p2, y, z, p, rfl, q⟩ := iv_chain hok
    obtain ⟨q, q7⟩ := and_iff q
    obtain ⟨q, q6⟩ := and_iff q
    obtain ⟨q, q5⟩ := and_iff q
    obtain ⟨q, q4⟩ := and_iff q
    obtain ⟨q, q3⟩ := and_iff q
    obtain ⟨q1, q2⟩ := and_iff q
    have q1 := of_decide_eq_true q1
    have q2 := of_decide_eq_true q2
    subst q1 q2
    unfold ev
    exact snd_chain C q7 (sE a C q3) (fun S1 => sE b C q4) fun S1 => sE c C q5
  | .ifx t a b, X, Γ, S, e, C, hok => by
    obtain ⟨c, x, y, p, rfl, q⟩ := iv_ifx hok
    obtain ⟨q, q3⟩ := and_iff q
    obtain ⟨q1, q2⟩ := and_iff q
    unfold ev
    exact snd_ifx (sT t C q1) (fun S1 => sE a C q2) fun S1 => sE b C q3
  | .tup l, X, Γ, S, e, C, hok => by
    obtain ⟨es, a, b, rfl, q⟩ := iv_tup hok
    unfold ev
    exact snd_tup (sL l C q)
  | .lst l, X, Γ, S, e, C, hok => by
    obtain ⟨es, b, rfl, q⟩ := iv_lst hok
    unfold ev
    exact snd_lst (sL l C q)
  | .idx a b, X, Γ, S, e, C, hok => by
    obtain ⟨x, y, p, rfl, q⟩ := iv_idx hok
    obtain ⟨q, q3⟩ := and_iff q
    obtain ⟨q1, q2⟩ := and_iff q
    unfold ev
    exact snd_idx q3 (sE a C q1) fun S1 => sE b C q2
  | .sli a lo hi, X, Γ, S, e, C, hok => by
    obtain ⟨x, l, u, p, p', rfl, q⟩ := iv_sli hok
    obtain ⟨q, q3⟩ := and_iff q
    obtain ⟨q1, q2⟩ := and_iff q
    unfold ev
    exact snd_sli (sE a C q1) (fun S1 => sO lo C q2) fun S1 => sO hi C q3
  | .frz a, X, Γ, S, e, C, hok => by
    unfold ev
    exact snd_frz (sE a C (iv_frz hok))
  | .call f l ds, X, Γ, S, e, C, hok => by
    obtain ⟨x, p, es, p', rfl, q⟩ := iv_call hok
    obtain ⟨q, q6⟩ := and_iff q
    obtain ⟨q, q5⟩ := and_iff q
    obtain ⟨q, q4⟩ := and_iff q
    obtain ⟨q, q3⟩ := and_iff q
    obtain ⟨q1, q2⟩ := and_iff q
    unfold ev
    exact snd_call C q1 (of_decide_eq_true q2) q3 q5 (fun ws S1 h => by rw [evs_len q4 q5 h]; exact of_decide_eq_true q6) (sL l C q4) fun h => evs_nil q4 h
  | .calL f l ds, X, Γ, S, e, C, hok => by
    obtain ⟨x, p, es, p', rfl, q⟩ := iv_calL hok
    obtain ⟨q, q6⟩ := and_iff q
    obtain ⟨q, q5⟩ := and_iff q
    obtain ⟨q, q4⟩ := and_iff q
    obtain ⟨q, q3⟩ := and_iff q
    obtain ⟨q1, q2⟩ := and_iff q
    unfold ev
    exact snd_calL C q1 (of_decide_eq_true q2) q3 q5 (fun ws S1 h => by rw [evs_len q4 q5 h]; exact of_decide_eq_true q6) (sL l C q4) fun h => evs_nil q4 h
  | .mk c f l ds, X, Γ, S, e, C, hok => by
    obtain ⟨x, p, es, p', rfl, q⟩ := iv_mk hok
    obtain ⟨q, q7⟩ := and_iff q
    obtain ⟨q, q6⟩ := and_iff q
    obtain ⟨q, q5⟩ := and_iff q
    obtain ⟨q, q4⟩ := and_iff q
    obtain ⟨q, q3⟩ := and_iff q
    obtain ⟨q1, q2⟩ := and_iff q
    unfold ev
    exact snd_mk C q1 (of_decide_eq_true q2) (of_decide_eq_true q3) q4 q6 (fun ws S1 h => by rw [evs_len q5 q6 h]; exact of_decide_eq_true q7) (sL l C q5) fun h => evs_nil q5 h
  | .scal f l ds, X, Γ, S, e, C, hok => by exact absurd hok (by cases e <;> exact Bool.noConfusion)
  | .sup f l, X, Γ, S, e, C, hok => by exact absurd hok (by cases e <;> exact Bool.noConfusion)
  | .ccn c a, X, Γ, S, e, C, hok => by exact absurd hok (by cases e <;> exact Bool.noConfusion)
  | .fld o a, X, Γ, S, e, C, hok => by
    obtain ⟨x, nm, p, rfl, q⟩ := iv_fld hok
    obtain ⟨q, q3⟩ := and_iff q
    obtain ⟨q1, q2⟩ := and_iff q
    have q1 := of_decide_eq_true q1
    subst q1
    unfold ev
    exact snd_fld C q3 (sE o C q2)
  | .prp o a, X, Γ, S, e, C, hok => by
    obtain ⟨x, nm, p, rfl, q⟩ := iv_prp hok
    obtain ⟨q, q3⟩ := and_iff q
    obtain ⟨q1, q2⟩ := and_iff q
    have q1 := of_decide_eq_true q1
    subst q1
    unfold ev
    exact snd_prp C q3 (sE o C q2)
  | .con o a, X, Γ, S, e, C, hok => by
    obtain ⟨x, nm, p, rfl, q⟩ := iv_con hok
    obtain ⟨q, q3⟩ := and_iff q
    obtain ⟨q1, q2⟩ := and_iff q
    have q1 := of_decide_eq_true q1
    subst q1
    unfold ev
    exact snd_con C q3 (sE o C q2)
  | .mth o m l ds, X, Γ, S, e, C, hok => by
    obtain ⟨x, nm, ap, es, p, rfl, q⟩ := iv_mth hok
    obtain ⟨q, q8⟩ := and_iff q
    obtain ⟨q, q7⟩ := and_iff q
    obtain ⟨q, q6⟩ := and_iff q
    obtain ⟨q, q5⟩ := and_iff q
    obtain ⟨q, q4⟩ := and_iff q
    obtain ⟨q, q3⟩ := and_iff q
    obtain ⟨q1, q2⟩ := and_iff q
    have q1 := of_decide_eq_true q1
    have q8 := of_decide_eq_true q8
    subst q1 q8
    unfold ev
    exact snd_mth C q3 q5 (of_decide_eq_true q6) q7 (sE o C q2) (fun S1 => sL l C q4) fun S1 h => evs_nil q4 h
  | .mtL o m l ds, X, Γ, S, e, C, hok => by
    obtain ⟨x, nm, ap, es, p, rfl, q⟩ := iv_mtL hok
    obtain ⟨q, q8⟩ := and_iff q
    obtain ⟨q, q7⟩ := and_iff q
    obtain ⟨q, q6⟩ := and_iff q
    obtain ⟨q, q5⟩ := and_iff q
    obtain ⟨q, q4⟩ := and_iff q
    obtain ⟨q, q3⟩ := and_iff q
    obtain ⟨q1, q2⟩ := and_iff q
    have q1 := of_decide_eq_true q1
    have q8 := of_decide_eq_true q8
    subst q1 q8
    unfold ev
    exact snd_mtL C q3 q5 (of_decide_eq_true q6) q7 (sE o C q2) (fun S1 => sL l C q4) fun S1 h => evs_nil q4 h
  | .isc a c, X, Γ, S, e, C, hok => by
    obtain ⟨x, p, y, z, pz, p', rfl, q⟩ := iv_isc hok
    obtain ⟨q, q7⟩ := and_iff q
    obtain ⟨q, q6⟩ := and_iff q
    obtain ⟨q, q5⟩ := and_iff q
    obtain ⟨q, q4⟩ := and_iff q
    obtain ⟨q, q3⟩ := and_iff q
    obtain ⟨q1, q2⟩ := and_iff q
    have q2 := of_decide_eq_true q2
    subst q2
    unfold ev
    exact snd_isc C q1 (of_decide_eq_true q6) q5 q7 q4 (sE a C q3)
  | .isi a t, X, Γ, S, e, C, hok => by
    obtain ⟨x, p, y, z, pz, p', rfl, q⟩ := iv_isi hok
    obtain ⟨q, q6⟩ := and_iff q
    obtain ⟨q, q5⟩ := and_iff q
    obtain ⟨q, q4⟩ := and_iff q
    obtain ⟨q, q3⟩ := and_iff q
    obtain ⟨q1, q2⟩ := and_iff q
    have q2 := of_decide_eq_true q2
    have q6 := of_decide_eq_true q6
    subst q2 q6
    unfold ev
    exact snd_isi C q1 q5 q4 (sE a C q3)
  | .bi b a, X, Γ, S, e, C, hok => by
    obtain ⟨x, p, y, p', rfl, q⟩ := iv_bi hok
    obtain ⟨q, q4⟩ := and_iff q
    obtain ⟨q, q3⟩ := and_iff q
    obtain ⟨q1, q2⟩ := and_iff q
    have q2 := of_decide_eq_true q2
    subst q2
    unfold ev
    exact snd_bi C q1 q4 (sE a C q3)
  | .bj b a c, X, Γ, S, e, C, hok => by
    obtain ⟨x, p, y, z, p', rfl, q⟩ := iv_bj hok
    obtain ⟨q, q6⟩ := and_iff q
    obtain ⟨q, q5⟩ := and_iff q
    obtain ⟨q, q4⟩ := and_iff q
    obtain ⟨q, q3⟩ := and_iff q
    obtain ⟨q1, q2⟩ := and_iff q
    have q2 := of_decide_eq_true q2
    subst q2
    unfold ev
    exact snd_bj C q1 q5 q6 (sE a C q3) fun S1 => sE c C q4
  | .lrg a b, X, Γ, S, e, C, hok => by
    obtain ⟨x, p, z, p', rfl, q⟩ := iv_lrg hok
    split at q
    · rename_i pp hp
      obtain ⟨p1, q0, rfl, g2, n1, n2⟩ := rg2_iv hp
      obtain ⟨q, q4⟩ := and_iff q
      obtain ⟨q, q3⟩ := and_iff q
      obtain ⟨q1, q2⟩ := and_iff q
      have q2 := of_decide_eq_true q2
      subst q2
      unfold ev
      exact snd_lrg C q1 g2 n1 n2 (sE a C q3) fun S1 => sE b C q4
    · exact Bool.noConfusion q
  | .mt1 m o a, X, Γ, S, e, C, hok => by
    obtain ⟨x, nm, ap, y, p, rfl, q⟩ := iv_mt1 hok
    obtain ⟨q, q7⟩ := and_iff q
    obtain ⟨q, q6⟩ := and_iff q
    obtain ⟨q, q5⟩ := and_iff q
    obtain ⟨q, q4⟩ := and_iff q
    obtain ⟨q, q3⟩ := and_iff q
    obtain ⟨q1, q2⟩ := and_iff q
    have q2 := of_decide_eq_true q2
    subst q2
    unfold ev
    exact snd_mt1 (of_decide_eq_true q1) q5 q6 q7 (sE o C q3) fun S1 => sE a C q4
  | .lc e' i s, X, Γ, S, e, C, hok => by
    obtain ⟨elt, x, p, iter, scope, p', rfl, q⟩ := iv_lc hok
    obtain ⟨q, q6⟩ := and_iff q
    obtain ⟨q, q5⟩ := and_iff q
    obtain ⟨q, q4⟩ := and_iff q
    obtain ⟨q, q3⟩ := and_iff q
    obtain ⟨q1, q2⟩ := and_iff q
    unfold ev
    exact snd_lc C (of_decide_eq_true q1) q2 (by rw [C.hN]; exact blkOk_by q3) q5 (sI s C q4) fun Γ' S1 s0 H0 Cc cl fp => sE e' (C.blk (iv_blk q3)) q6
  | .lcc e' i s t, X, Γ, S, e, C, hok => by
    obtain ⟨elt, x, p, iter, c, scope, p', rfl, q⟩ := iv_lcc hok
    obtain ⟨q, q7⟩ := and_iff q
    obtain ⟨q, q6⟩ := and_iff q
    obtain ⟨q, q5⟩ := and_iff q
    obtain ⟨q, q4⟩ := and_iff q
    obtain ⟨q, q3⟩ := and_iff q
    obtain ⟨q1, q2⟩ := and_iff q
    unfold ev
    exact snd_lcc C (of_decide_eq_true q1) q2 (by rw [C.hN]; exact blkOk_by q3) q5 (sI s C q4) (fun Γ' S1 s0 H0 Cc cl fp => sE e' (C.blk (iv_blk q3)) q6) fun Γ' S1 s0 H0 Cc cl fp => sT t (C.blk (iv_blk q3)) q7
  | .lcu e' is s, X, Γ, S, e, C, hok => by
    obtain ⟨elt, ts, kk, p, iter, scope, p', rfl, q⟩ := iv_lcu hok
    obtain ⟨q, q5⟩ := and_iff q
    obtain ⟨q, q4⟩ := and_iff q
    obtain ⟨q, q3⟩ := and_iff q
    obtain ⟨q1, q2⟩ := and_iff q
    unfold ev
    exact snd_lcu C q1 (by rw [C.hN]; exact blkOk_by q2) q4 (sI s C q3) fun Γ' S1 s0 H0 Cc cl fp => sE e' (C.blk (iv_blk q2)) q5
  | .lccu e' is s t, X, Γ, S, e, C, hok => by
    obtain ⟨elt, ts, kk, p, iter, c, scope, p', rfl, q⟩ := iv_lccu hok
    obtain ⟨q, q6⟩ := and_iff q
    obtain ⟨q, q5⟩ := and_iff q
    obtain ⟨q, q4⟩ := and_iff q
    obtain ⟨q, q3⟩ := and_iff q
    obtain ⟨q1, q2⟩ := and_iff q
    unfold ev
    exact snd_lccu C q1 (by rw [C.hN]; exact blkOk_by q2) q4 (sI s C q3) (fun Γ' S1 s0 H0 Cc cl fp => sE e' (C.blk (iv_blk q2)) q5) fun Γ' S1 s0 H0 Cc cl fp => sT t (C.blk (iv_blk q2)) q6
  | .lc2 e' g1 s1 g2 s2, X, Γ, S, e, C, hok => by
    obtain ⟨elt, t1, iter, t2, iter1, scope, p', rfl, q⟩ := iv_lc2 hok
    obtain ⟨q, q10⟩ := and_iff q
    obtain ⟨q, q9⟩ := and_iff q
    obtain ⟨q, q8⟩ := and_iff q
    obtain ⟨q, q7⟩ := and_iff q
    obtain ⟨q, q6⟩ := and_iff q
    obtain ⟨q, q5⟩ := and_iff q
    obtain ⟨q, q4⟩ := and_iff q
    obtain ⟨q, q3⟩ := and_iff q
    obtain ⟨q1, q2⟩ := and_iff q
    unfold ev
    exact snd_lc2 C q1 q2 (by rw [C.hN]; exact blkOk_by q3) q6 q9 q5 q8 (sI s1 C q4) (fun Γ' S1 s0 H0 Cc cl fp => sI s2 (C.blk (iv_blk q3)) q7) fun Γ' S1 s0 H0 Cc cl fp => sE e' (C.blk (iv_blk q3)) q10
  | .lc2c e' g1 s1 g2 s2 t, X, Γ, S, e, C, hok => by
    obtain ⟨elt, t1, iter, t2, iter1, c, scope, p', rfl, q⟩ := iv_lc2c hok
    obtain ⟨q, q11⟩ := and_iff q
    obtain ⟨q, q10⟩ := and_iff q
    obtain ⟨q, q9⟩ := and_iff q
    obtain ⟨q, q8⟩ := and_iff q
    obtain ⟨q, q7⟩ := and_iff q
    obtain ⟨q, q6⟩ := and_iff q
    obtain ⟨q, q5⟩ := and_iff q
    obtain ⟨q, q4⟩ := and_iff q
    obtain ⟨q, q3⟩ := and_iff q
    obtain ⟨q1, q2⟩ := and_iff q
    unfold ev
    exact snd_lc2c C q1 q2 (by rw [C.hN]; exact blkOk_by q3) q6 q9 q5 q8 (sI s1 C q4) (fun Γ' S1 s0 H0 Cc cl fp => sI s2 (C.blk (iv_blk q3)) q7) (fun Γ' S1 s0 H0 Cc cl fp => sE e' (C.blk (iv_blk q3)) q10) fun Γ' S1 s0 H0 Cc cl fp => sT t (C.blk (iv_blk q3)) q11
theorem sL : ∀ (c : CL) {X : Cx} {Γ : Env'} {S : Sto} {es : List Expr}, Cok X M T Z lv → okL M X.env.scope c es = true → SndL X (kx X Z) Γ S es (evs T c Γ S)
  | .nil, X, Γ, S, es, C, hok => by
    cases es with
    | nil => unfold evs; exact snd_nil
    | cons x r => exact Bool.noConfusion hok
  | .cons e l, X, Γ, S, es, C, hok => by
    cases es with
    | nil => exact Bool.noConfusion hok
    | cons x r =>
      have hok : (okE M X.env.scope e x && noStar x && okL M X.env.scope l r) = true := hok
      obtain ⟨q, q3⟩ := and_iff hok
      obtain ⟨q1, q2⟩ := and_iff q
      unfold evs
      exact snd_cons q2 (sE e C q1) fun S1 => sL l C q3
  | .star e l, X, Γ, S, es, C, hok => by
    cases es with
    | nil => exact Bool.noConfusion hok
    | cons x r =>
      cases x with
      | Starred y p =>
        have hok : (okE M X.env.scope e y && okL M X.env.scope l r) = true := hok
        obtain ⟨q1, q2⟩ := and_iff hok
        unfold evs
        exact snd_star (sE e C q1) fun S1 => sL l C q2
      | _ => exact Bool.noConfusion hok
theorem sT : ∀ (c : CT) {X : Cx} {Γ : Env'} {S : Sto} {e : Expr}, Cok X M T Z lv → okT' M X.env.scope c e = true → SndT X (kx X Z) Γ S e (evt T c Γ S)
  | .e c, X, Γ, S, e, C, hok => by
    obtain ⟨q1, q2⟩ := ivt_e hok
    unfold evt
    exact snd_te C q1 (sE c C q2)
  | .cmp op a b, X, Γ, S, e, C, hok => by
    obtain ⟨x, o, y, p, rfl, q⟩ := ivt_cmp hok
    obtain ⟨q, q4⟩ := and_iff q
    obtain ⟨q, q3⟩ := and_iff q
    obtain ⟨q1, q2⟩ := and_iff q
    have q1 := of_decide_eq_true q1
    subst q1
    unfold evt
    exact snd_tcmp C q4 (sE a C q2) fun S1 => sE b C q3
  | .chain o1 o2 a b c, X, Γ, S, e, C, hok => by
    obtain ⟨x, p1, p2, y, z, p, rfl, q⟩ := ivt_chain hok
    obtain ⟨q, q7⟩ := and_iff q
    obtain ⟨q, q6⟩ := and_iff q
    obtain ⟨q, q5⟩ := and_iff q
    obtain ⟨q, q4⟩ := and_iff q
    obtain ⟨q, q3⟩ := and_iff q
    obtain ⟨q1, q2⟩ := and_iff q
    have q1 := of_decide_eq_true q1
    have q2 := of_decide_eq_true q2
    subst q1 q2
    unfold evt
    exact snd_tchain C q7 (sE a C q3) (fun S1 => sE b C q4) fun S1 => sE c C q5
  | .and a b, X, Γ, S, e, C, hok => by
    unfold evt
    rcases ivt_and hok with ⟨x, y, p, rfl, q⟩ | ⟨x, y, z, r, p, rfl, q⟩
    · obtain ⟨q1, q2⟩ := and_iff q
      exact snd_tand (sT a C q1) fun S1 => snd_tand1 (sT b C q2)
    · obtain ⟨q1, q2⟩ := and_iff q
      exact snd_tand (sT a C q1) fun S1 => sT b C q2
  | .or a b, X, Γ, S, e, C, hok => by
    unfold evt
    rcases ivt_or hok with ⟨x, y, p, rfl, q⟩ | ⟨x, y, z, r, p, rfl, q⟩
    · obtain ⟨q1, q2⟩ := and_iff q
      exact snd_tor (sT a C q1) fun S1 => snd_tor1 (sT b C q2)
    · obtain ⟨q1, q2⟩ := and_iff q
      exact snd_tor (sT a C q1) fun S1 => sT b C q2
  | .not a, X, Γ, S, e, C, hok => by
    obtain ⟨x, p, rfl, q⟩ := ivt_not hok
    unfold evt
    exact snd_tnot (sT a C q)
theorem sO : ∀ (c : CP) {X : Cx} {Γ : Env'} {S : Sto} {e : Option Expr}, Cok X M T Z lv → okP M X.env.scope c e = true → SndO X (kx X Z) Γ S e (evo T c Γ S)
  | .no, X, Γ, S, e, C, hok => by
    cases e with
    | none => unfold evo; exact snd_ono
    | some x => exact Bool.noConfusion hok
  | .so c, X, Γ, S, e, C, hok => by
    cases e with
    | none => exact Bool.noConfusion hok
    | some x => unfold evo; exact snd_oso (sE c C hok)
theorem sI : ∀ (c : CI) {X : Cx} {Γ : Env'} {S : Sto} {e : Expr}, Cok X M T Z lv → okI M X.env.scope c e = true → SndI X (kx X Z) Γ S e (evi T c Γ S)
  | .e c, X, Γ, S, e, C, hok => by
    have hok : okE M X.env.scope c e = true := by cases e <;> exact hok
    unfold evi
    exact snd_ie (sE c C hok)
  | .s c, X, Γ, S, e, C, hok => by
    have hok : okE M X.env.scope c e = true := by cases e <;> exact hok
    unfold evi
    exact snd_is (sE c C hok)
  | .r1 a, X, Γ, S, e, C, hok => by
    obtain ⟨p, x, p', rfl, q⟩ := ivi_r1 hok
    obtain ⟨q, q3⟩ := and_iff q
    obtain ⟨q1, q2⟩ := and_iff q
    unfold evi
    exact snd_ir1 C q1 q3 (sE a C q2)
  | .r2 a b, X, Γ, S, e, C, hok => by
    obtain ⟨p, x, y, p', rfl, q⟩ := ivi_r2 hok
    obtain ⟨q, q5⟩ := and_iff q
    obtain ⟨q, q4⟩ := and_iff q
    obtain ⟨q, q3⟩ := and_iff q
    obtain ⟨q1, q2⟩ := and_iff q
    unfold evi
    exact snd_ir2 C q1 q4 q5 (sE a C q2) fun S1 => sE b C q3
  | .en a, X, Γ, S, e, C, hok => by
    obtain ⟨p, x, p', rfl, q⟩ := ivi_en hok
    obtain ⟨q, q3⟩ := and_iff q
    obtain ⟨q1, q2⟩ := and_iff q
    unfold evi
    exact snd_ien C q1 q3 (sE a C q2)
end
end
end NV

namespace NV
open PySem L2

/-! ### the checker of statements -/
def swB (sc : Scope) (t : Str) (p : Pos) (v : Expr) : Bool := match v with
  | .ListComp _ _ s q => (sc.names.lookup t == some .local) && (p.line == q.line) && !(s.names.any fun (n, k) => n == t && (k == .local || k == .cell))
  | .SetComp _ _ s q => true
  | .DictComp _ _ _ s q => true
  | _ => false
def noComp : Expr → Bool
  | .ListComp _ _ _ _ => false
  | .SetComp _ _ _ _ => false
  | .DictComp _ _ _ _ _ => false
  | _ => true
def noTup : Expr → Bool
  | .Tuple vs _ _ => vs.all (foldedForSure 8)
  | _ => true
/-- a class stands in the handlers -/
def okHd (M : Nm) (sc : Scope) : List Hd → List ExceptHandler → Bool := fun _ _ => false
mutual
def okS (M : Nm) (sc : Scope) : CS → Stmt → Bool
  | .set i e, .Assign [.Name x p] v _ => decide (M.N[i]? = some x) && locB sc x && okE M sc e v
  | .unp is e, .Assign [.Tuple es _ _] v _ => okU M sc is es && okE M sc e v && noComp v && noTup v
  | .sfld i a e, .Assign [.Attribute (.Name x _) nm _] v _ => visB sc x && decide (M.N[i]? = some x) && nmB x && decide (a = nm) && okE M sc e v && noComp v
  | .sidx o ix e, .Assign [.Subscript x y _] v _ => okE M sc o x && okE M sc ix y && okE M sc e v && noSlice y
  | .app o e, .Expr (.Call (.Attribute x nm ap) [y] [] q) _ => okE M sc o x && noSuper x && decide (nm = ("append" : Str)) && okE M sc e y && noStar y && (ap.endLine == q.line)
  | .ex e, .Expr v _ => okE M sc e v && noComp v
  | .ret e, .Return (some v) _ => okE M sc e v
  | .ret0, .Return none _ => true
  | .ite t a b, .If c x y _ => okT' M sc t c && okBk M sc a x && okBk M sc b y
  | .fru is s b, .For (.Tuple ts _ _) iter body [] _ => okU M sc is ts && okI M sc s iter && noSet0 iter && okBk M sc b body
  | .ins o ix e, .Expr (.Call (.Attribute x nm ap) [y, z] [] q) _ => okE M sc o x && noSuper x && decide (nm = ("insert" : Str)) && okE M sc ix y && noStar y && okE M sc e z && noStar z && (ap.endLine == q.line)
  | .del o .no, .Expr (.Call (.Attribute x nm ap) [] [] q) _ => okE M sc o x && noSuper x && decide (nm = ("pop" : Str)) && (ap.endLine == q.line)
  | .del o (.so ix), .Expr (.Call (.Attribute x nm ap) [y] [] q) _ => okE M sc o x && noSuper x && decide (nm = ("pop" : Str)) && okE M sc ix y && noStar y && (ap.endLine == q.line)
  | .setp i o .no, .Assign [.Name v _] (.Call (.Attribute x nm ap) [] [] q) _ => decide (M.N[i]? = some v) && locB sc v && okE M sc o x && noSuper x && decide (nm = ("pop" : Str)) && (ap.endLine == q.line)
  | .setp i o (.so ix), .Assign [.Name v _] (.Call (.Attribute x nm ap) [y] [] q) _ => decide (M.N[i]? = some v) && locB sc v && okE M sc o x && noSuper x && decide (nm = ("pop" : Str)) && okE M sc ix y && noStar y && (ap.endLine == q.line)
  | .clr o, .Expr (.Call (.Attribute x nm ap) [] [] q) _ => okE M sc o x && noSuper x && decide (nm = ("clear" : Str)) && (ap.endLine == q.line)
  | .rvs o, .Expr (.Call (.Attribute x nm ap) [] [] q) _ => okE M sc o x && noSuper x && decide (nm = ("reverse" : Str)) && (ap.endLine == q.line)
  | .fr i s b, .For (.Name x _) iter body [] _ => decide (M.N[i]? = some x) && locB sc x && okI M sc s iter && noSet iter && okBk M sc b body
  | .brk, .Break _ => true
  | .cnt, .Continue _ => true
  | .pas, .Pass _ => true
  | .bot, _ => true
  | _, _ => false
def okBk (M : Nm) (sc : Scope) : CB → List Stmt → Bool
  | .nil, [] => true
  | .cons s b, x :: r => okS M sc s x && okBk M sc b r
  | .frz _ b, sts => okBk M sc b sts
  | _, _ => false
end
section
variable {env : Env} {l : Nat}
theorem sw_none {v : Expr} (h : noComp v = true) : swapsWith v none l env = pure false := by
  cases v <;> first | rfl | (simp [noComp] at h)
theorem sw_any {v t : Expr} (h : noComp v = true) : swapsWith v (some t) l env = pure false := by
  cases v <;> first | rfl | (simp [noComp] at h)
theorem sw_tup {v t : Expr} (h : noComp v = true) : swapsWithSole [t] v l env = pure false := sw_any h
theorem sw_sub {v o i : Expr} {p : Pos} : swapsWithSole [.Subscript o i p] v l env = pure false := by
  cases v <;> rfl
theorem sws_sub {v o i : Expr} {p : Pos} : swappedStores [.Subscript o i p] v env = pure none := by
  cases v <;> rfl
theorem sws_tup {v : Expr} {es : List Expr} {k : Nat} {p : Pos} (h : noTup v = true) : swappedStores [.Tuple es k p] v env = pure none := by
  cases v <;> first | rfl | skip
  rename_i vs k' p'
  have h : vs.all (foldedForSure 8) = true := h
  unfold swappedStores
  simp only [h, if_true]
  split
  · rfl
  · split
    · rfl
    · split <;> rfl
theorem sw_false {v : Expr} {t : Str} {p : Pos} (hk : env.scope.kind = .function) (h : swB env.scope t p v = false) : swapsWith v (some (.Name t p)) l env = pure false := by
  cases v <;> first | rfl | (simp [swB] at h; done) | skip
  rename_i elt gs s q
  have hb : env.blockKind = .function := by unfold Env.blockKind; rw [hk]; rfl
  have h : ((env.scope.names.lookup t == some .local) && (p.line == q.line) && !(s.names.any fun (n, k) => n == t && (k == .local || k == .cell))) = false := h
  have ky : env.kindOf t = env.scope.names.lookup t := rfl
  unfold swapsWith
  simp only [hb, ky, Expr.pos]
  show pure ((ScopeKind.function == ScopeKind.function) && _ && _ && _) = _
  have : (ScopeKind.function == ScopeKind.function) = true := rfl
  rw [this, Bool.true_and, h]
theorem assign_sub {o i : Expr} {pos : Pos} (h : noSlice i = true) : ∀ v, assign (.Subscript o i pos) env v = (do
      let ov ← holding [v] (eval o env)
      let iv ← holding [v, ov] (eval i env)
      standAt pos
      holding [v, ov, iv] (setItem ov iv v)
      release [v, ov, iv] []) := by
  intro v
  cases i <;> first | rfl | (simp [noSlice] at h)
end
/-! ### soundness of statements -/
def PostS (k : Kx) (F0 H0 : Hp) (μ0 : Nat → Addr) (S0 : Sto) (o : SOut) : Ends where
  nx := fun σ H => ∃ Γ S F μ, o = .nx Γ S ∧ RelG k F μ S.length Γ σ ∧ StoOk k F H μ S ∧ Gr F0 H0 μ0 S0 F H μ S
  rt := fun v H => ∃ w S F μ, o = .rt w S ∧ Gr F0 H0 μ0 S0 F H μ S ∧ StoOk k F H μ S ∧ RpW k F μ S.length w v
  bk := fun σ H => ∃ Γ S F μ, o = .bk Γ S ∧ RelG k F μ S.length Γ σ ∧ StoOk k F H μ S ∧ Gr F0 H0 μ0 S0 F H μ S
  ct := fun σ H => ∃ Γ S F μ, o = .ct Γ S ∧ RelG k F μ S.length Γ σ ∧ StoOk k F H μ S ∧ Gr F0 H0 μ0 S0 F H μ S
def PoXS (k : Kx) (F0 H0 : Hp) (μ0 : Nat → Addr) (S0 : Sto) (e : Er) (Γ : Env') (S : Sto) (σ : St) : XK := fun cls d H => ∃ F μ, Gr F0 H0 μ0 S0 F H μ S ∧ StoOk k F H μ S ∧ ErOk k F H e cls d ∧ RelG k F μ S.length Γ σ
def ErrS (X : Cx) (k : Kx) (F0 H0 : Hp) (μ0 : Nat → Addr) (S0 : Sto) (o : SOut) : Prop := ∀ e Γ S, o = .er e Γ S → ∀ σ, Ps X σ (PoXS k F0 H0 μ0 S0 e Γ S σ)
def SndS (X : Cx) (k : Kx) (b : Nat) (Γ : Env') (S : Sto) (st : Stmt) (o : SOut) : Prop := o ≠ .bad → ∀ F0 H0 μ0 S0, b = S0.length → ∀ σ F H μ, RelG k F μ S.length Γ σ → StoOk k F H μ S → Gr F0 H0 μ0 S0 F H μ S → ErrS X k F0 H0 μ0 S0 o → WS X st (PostS k F0 H0 μ0 S0 o) σ H
def SndBk (X : Cx) (k : Kx) (b : Nat) (Γ : Env') (S : Sto) (st : List Stmt) (o : SOut) : Prop := o ≠ .bad → ∀ F0 H0 μ0 S0, b = S0.length → ∀ σ F H μ, RelG k F μ S.length Γ σ → StoOk k F H μ S → Gr F0 H0 μ0 S0 F H μ S → ErrS X k F0 H0 μ0 S0 o → WB X st (PostS k F0 H0 μ0 S0 o) σ H
section
variable {X : Cx} {k : Kx} {F0 H0 F H F1 H1 : Hp} {μ0 μ μ1 : Nat → Addr} {S0 S S1 : Sto} {Γ : Env'} {σ : St} {α : Type}
theorem ErrS.fwd {o : SOut} (h : ErrS X k F0 H0 μ0 S0 o) (g : Gr F0 H0 μ0 S0 F1 H1 μ1 S1) : ErrS X k F1 H1 μ1 S1 o := fun e Γ S q σ => (h e Γ S q σ).mono fun _ _ _ ⟨F, μ, a, b, c, d⟩ => ⟨F, μ, g.trans a, b, c, d⟩
/-- the errors of an expression in a statement -/
theorem ErrS.of_err {e : Er} {S1 : Sto} {f : α → Sto → SOut} (h : ErrS X k F0 H0 μ0 S0 (liftE Γ (.err e S1) f)) (g : Gr F0 H0 μ0 S0 F H μ S) (rel : RelG k F μ S.length Γ σ) : ErrE X k σ F H μ S (.err e S1 : Out α) := fun e' S' q => by
  cases q
  exact (h e Γ S1 rfl σ).mono fun _ _ _ ⟨F', μ', a, b, c⟩ => ⟨F', μ', g.trans a, b, c, rel.gr a⟩
/-- for the whole of an expression whose end is the statement's -/
theorem ErrS.lift {o : Out α} {f : α → Sto → SOut} (h : ErrS X k F0 H0 μ0 S0 (liftE Γ o f)) (g : Gr F0 H0 μ0 S0 F H μ S) (rel : RelG k F μ S.length Γ σ) : ErrE X k σ F H μ S o := by
  cases o with
  | ok a S1 => exact .ok
  | bad => exact fun _ _ q => nomatch q
  | err e S1 => exact h.of_err g rel
theorem liftE_ne {o : Out α} {f : α → Sto → SOut} (h : liftE Γ o f ≠ .bad) : o ≠ .bad := fun q => h (by rw [q]; rfl)
theorem SndE.ths {a : Expr} {oa : Out W} {f : W → Sto → SOut} (sa : SndE X k Γ S a oa) (hb : liftE Γ oa f ≠ .bad) (rel : RelG k F μ S.length Γ σ) (st : StoOk k F H μ S) (g : Gr F0 H0 μ0 S0 F H μ S) (er : ErrS X k F0 H0 μ0 S0 (liftE Γ oa f)) {R : VK}
    (cont : ∀ x S1, oa = .ok x S1 → ∀ F1 H1 μ1 v, Gr F H μ S F1 H1 μ1 S1 → Gr F0 H0 μ0 S0 F1 H1 μ1 S1 → StoOk k F1 H1 μ1 S1 → RpW k F1 μ1 S1.length x v → f x S1 ≠ .bad → ErrS X k F0 H0 μ0 S0 (f x S1) → R v H1) : WE X a σ H R := by
  refine (sa (liftE_ne hb) σ F H μ rel st (er.lift g rel)).mono fun v H1 q => ?_
  cases oa with
  | ok x S1 => obtain ⟨F1, μ1, g1, s1, r⟩ := q; exact cont x S1 rfl F1 H1 μ1 v g1 (g.trans g1) s1 r hb er
  | err e S1 => exact q.elim
  | bad => exact q.elim
theorem SndT.ths {a : Expr} {oa : Out Bool} {f : Bool → Sto → SOut} (sa : SndT X k Γ S a oa) (hb : liftE Γ oa f ≠ .bad) (rel : RelG k F μ S.length Γ σ) (st : StoOk k F H μ S) (g : Gr F0 H0 μ0 S0 F H μ S) (er : ErrS X k F0 H0 μ0 S0 (liftE Γ oa f)) {R : Bool → Hp → Prop}
    (cont : ∀ x S1, oa = .ok x S1 → ∀ F1 H1 μ1, Gr F H μ S F1 H1 μ1 S1 → Gr F0 H0 μ0 S0 F1 H1 μ1 S1 → StoOk k F1 H1 μ1 S1 → f x S1 ≠ .bad → ErrS X k F0 H0 μ0 S0 (f x S1) → R x H1) : WT X a σ H R := by
  refine (sa (liftE_ne hb) σ F H μ rel st (er.lift g rel)).mono fun v H1 q => ?_
  cases oa with
  | ok x S1 => obtain ⟨rfl, F1, μ1, g1, s1⟩ := q; exact cont v S1 rfl F1 H1 μ1 g1 (g.trans g1) s1 hb er
  | err e S1 => exact q.elim
  | bad => exact q.elim
theorem optS_ne {o : Option α} {f : α → SOut} (h : optS o f ≠ .bad) : ∃ a, o = some a ∧ f a ≠ .bad := by
  cases o with
  | some a => exact ⟨a, rfl, h⟩
  | none => exact absurd rfl h
theorem needS_ne {c : Prop} {i : Decidable c} {o : SOut} (h : @needS c i o ≠ .bad) : c ∧ o ≠ .bad := by
  unfold needS at h
  split at h
  · exact ⟨by assumption, h⟩
  · exact absurd rfl h
theorem needS_pos {c : Prop} {i : Decidable c} {o : SOut} (h : c) : @needS c i o = o := if_pos h
/-- the list at a cell changes -/
theorem mut_ok {x : W} {f : List W → Option (List W)} {v : V} (st : StoOk k F H μ S) (hx : RpW k F μ S.length x v) (hb : mutL Γ S x f ≠ .bad) : ∃ n l l' vs, x = .r n ∧ S[n]? = some (.lst l) ∧ f l = some l' ∧ v = .ref (μ n) ∧ H (μ n) = some (.lst vs) ∧ RpWs k F μ S.length l vs ∧ mutL Γ S x f = .nx Γ (S.set n (.lst l')) := by
  cases x with
  | v d => exact absurd rfl hb
  | r n =>
    unfold mutL at hb ⊢
    dsimp only at hb ⊢
    split at hb
    · rename_i l hl
      obtain ⟨l', hf, _⟩ := optS_ne hb
      obtain ⟨vs, h1, h2, h3⟩ := st.cell _ _ hl
      refine ⟨n, l, l', vs, rfl, hl, hf, hx.1, h1, h3, ?_⟩
      simp only [hl, hf, optS_some]
    · exact absurd rfl hb
theorem set_cell (rel : RelG k F μ S.length Γ σ) (st : StoOk k F H μ S) (g : Gr F0 H0 μ0 S0 F H μ S) {n : Nat} {l l' : List W} {vs' : List V} (hn : S[n]? = some (.lst l)) (h : RpWs k F μ S.length l' vs') :
    RelG k F μ (S.set n (.lst l')).length Γ σ ∧ StoOk k F (upd H (μ n) (.lst vs')) μ (S.set n (.lst l')) ∧ Gr F0 H0 μ0 S0 F (upd H (μ n) (.lst vs')) μ (S.set n (.lst l')) := by
  obtain ⟨vs, h1, h2, h3⟩ := st.cell _ _ hn
  obtain ⟨g1, s1⟩ := Gr.wr st hn (c' := .lst l') (by simp) (by simp) (.lst vs') ⟨vs', upd_same, h2, h⟩
  exact ⟨by rw [List.length_set]; exact rel, s1, g.trans g1⟩
theorem FldOk.put {ns : List Str} {vs : List V} {fs : List (Str × V)} (h : FldOk ns vs fs) (nd : ns.Nodup) {f : Str} {i : Nat} (hi : ns[i]? = some f) {v : V} : (i < vs.length → FldOk ns (vs.set i v) (putF f v fs)) ∧ (i = vs.length → FldOk ns (vs ++ [v]) (putF f v fs)) := by
  have hil := (List.getElem?_eq_some_iff.mp hi).1
  have len : ∀ (fs : List (Str × V)) u, fs.lookup f = some u → (putF f v fs).length = fs.length := by
    intro fs
    induction fs with
    | nil => intro u h; cases h
    | cons p r ih =>
      intro u h
      obtain ⟨g, x⟩ := p
      unfold putF
      by_cases e : g = f
      · rw [if_pos e]; rfl
      · rw [if_neg e]
        have : (f == g) = false := beq_eq_false_iff_ne.mpr fun z => e z.symm
        rw [List.lookup_cons, this] at h
        simp [ih u h]
  have inj : ∀ (j : Nat), ns[j]? = some f → j = i := fun j hj => ((List.getElem?_inj hil nd).mp (hi.trans hj.symm)).symm
  constructor
  · intro hlt
    have hx : fs.lookup f = some vs[i] := by rw [h.at_ i f hi]; exact List.getElem?_eq_getElem hlt
    refine ⟨by simpa using h.le, fun j g hj => ?_, fun g hg => ?_, by rw [len fs _ hx]; simpa using h.few⟩
    · rw [lookup_putF]
      by_cases e : g = f
      · subst e
        rw [if_pos rfl, inj j hj, List.getElem?_set_self hlt]
      · rw [if_neg e, h.at_ j g hj, List.getElem?_set_ne fun z => e (by subst z; rw [hi] at hj; cases hj; rfl)]
    · have e : g ≠ f := fun z => hg (by subst z; exact List.mem_of_getElem? hi)
      rw [lookup_putF, if_neg e]; exact h.no g hg
  · intro heq
    refine ⟨by simp; omega, fun j g hj => ?_, fun g hg => ?_, by have := length_putF f v fs; have := h.few; simp; omega⟩
    · rw [lookup_putF]
      by_cases e : g = f
      · subst e
        rw [if_pos rfl, inj j hj, heq]
        simp
      · rw [if_neg e, h.at_ j g hj]
        have : j ≠ vs.length := fun z => e (by subst z; rw [← heq, hi] at hj; cases hj; rfl)
        by_cases hl : j < vs.length
        · rw [List.getElem?_append_left hl]
        · rw [List.getElem?_eq_none_iff.mpr (by omega), List.getElem?_eq_none_iff.mpr (by simp; omega)]
    · have e : g ≠ f := fun z => hg (by subst z; exact List.mem_of_getElem? hi)
      rw [lookup_putF, if_neg e]; exact h.no g hg
/-! ### a name's object is settled -/
theorem nr_all {n : Nat} {l : List W} {vs : List V} {N N' : Nat} (h : l.all (nrW n) = true) (r : RpWs k F μ N l vs) (hN : N = N' ∨ (N = n + 1 ∧ N' = n)) : RpWs k F μ N' l vs := by
  induction l generalizing vs with
  | nil => exact r
  | cons w l ih =>
    obtain ⟨v, t, rfl, r1, r2⟩ := r
    simp only [List.all_cons, Bool.and_eq_true] at h
    refine ⟨v, t, rfl, ?_, ih h.2 r2⟩
    cases w with
    | v d => exact r1
    | r m =>
      refine ⟨r1.1, ?_⟩
      have h1 : m ≠ n := by simpa [nrW] using h.1
      have := r1.2
      omega
theorem nr_cell {n N N' : Nat} {a : Addr} {c : Cell} (h : c.nr n = true) (r : CellOk k F H μ N a c) (hN : N = N' ∨ (N = n + 1 ∧ N' = n)) : CellOk k F H μ N' a c := by
  cases c with
  | dead => trivial
  | lst l => obtain ⟨vs, h1, h2, h3⟩ := r; exact ⟨vs, h1, h2, nr_all h h3 hN⟩
  | tup l => obtain ⟨vs, h1, h2, h3⟩ := r; exact ⟨vs, h1, h2, nr_all h h3 hN⟩
  | dct ks l => obtain ⟨vs, h1, h2, h3⟩ := r; exact ⟨vs, h1, nr_all h h2 hN, h3⟩
  | ins c l => obtain ⟨dx, fs, vs, h1, h2, h3, h4⟩ := r; exact ⟨dx, fs, vs, h1, h2, h3, nr_all h h4 hN⟩
theorem tree_rp {a : Addr} {N : Nat} {c : Cell} {d : D} (h : CellOk k F H μ N a c) (e : c.tree = some d) {o : HO} (ho : H a = some o) : Rp k (upd F a o) d (.ref a) := by
  have sF : F a = none := by
    cases c with
    | dead => cases e
    | lst l => obtain ⟨vs, _, h, _⟩ := h; exact h
    | tup l => obtain ⟨vs, _, h, _⟩ := h; exact h
    | dct ks l => obtain ⟨vs, h, _⟩ := h; exact h
    | ins c l => obtain ⟨dx, fs, vs, _, h, _⟩ := h; exact h
  have sF := same_upd (o := o) sF
  cases c with
  | dead => cases e
  | lst l =>
    obtain ⟨ds, e1, rfl⟩ := Option.map_eq_some_iff.mp e
    obtain ⟨vs, h1, h2, h3⟩ := h
    rw [ho] at h1; cases h1
    unfold Rp
    exact ⟨a, vs, rfl, upd_same, Rps.mono sF _ (h3.unV e1)⟩
  | tup l =>
    obtain ⟨ds, e1, rfl⟩ := Option.map_eq_some_iff.mp e
    obtain ⟨vs, h1, h2, h3⟩ := h
    rw [ho] at h1; cases h1
    unfold Rp
    exact ⟨a, vs, rfl, .of upd_same, Rps.mono sF _ (h3.unV e1)⟩
  | dct ks l =>
    obtain ⟨ds, e1, rfl⟩ := Option.map_eq_some_iff.mp e
    obtain ⟨vs, h1, h2, h3⟩ := h
    unfold Rp
    refine ⟨a, vs, rfl, Rps.mono sF _ (h2.unV e1), ?_⟩
    rw [upd_same]
    rw [ho] at h3
    exact h3
  | ins c l =>
    obtain ⟨ds, e1, rfl⟩ := Option.map_eq_some_iff.mp e
    obtain ⟨dx, fs, vs, h1, h2, h3, h4⟩ := h
    rw [ho] at h1; cases h1
    unfold Rp
    exact ⟨a, dx, fs, vs, rfl, upd_same, h3, Rps.mono sF _ (h4.unV e1)⟩
theorem popS_get {n m : Nat} {c : Cell} (h : (popS n S)[m]? = some c) (d : c ≠ .dead) : S[m]? = some c ∧ m ≠ n := by
  unfold popS at h
  split at h
  · have hm : m < n := by
      have := (List.getElem?_eq_some_iff.mp h).1
      rw [List.length_take] at this; omega
    rw [List.getElem?_take_of_lt hm] at h
    exact ⟨h, by omega⟩
  · rcases get_set h with ⟨rfl, rfl, _⟩ | ⟨ne, h⟩
    · exact absurd rfl d
    · exact ⟨h, fun z => ne z.symm⟩
theorem frz_st {n : Nat} {c : Cell} {d : D} (rel : RelG k F μ S.length Γ σ) (st : StoOk k F H μ S) (g : Gr F0 H0 μ0 S0 F H μ S) (hb : S0.length ≤ n) (hn : S[n]? = some c) (ht : c.tree = some d) (ha : S.all (Cell.nr n) = true) :
    ∃ F', RelG k F' μ (popS n S).length (Γ.map (subO n d)) σ ∧ StoOk k F' H μ (popS n S) ∧ Gr F0 H0 μ0 S0 F' H μ (popS n S) := by
  have hl : n < S.length := (List.getElem?_eq_some_iff.mp hn).1
  have hd : c ≠ .dead := tree_live (by rw [ht]; rfl)
  obtain ⟨o, ho⟩ := (st.cell n c hn).some hd
  have fn := (st.cell n c hn).fnone hd
  have sF : Same F (upd F (μ n) o) := same_upd fn
  have hN : S.length = (popS n S).length ∨ (S.length = n + 1 ∧ (popS n S).length = n) := by
    unfold popS
    split
    · rename_i e; right; exact ⟨e.symm, by rw [List.length_take]; omega⟩
    · left; rw [List.length_set]
  have lo : ∀ m, m < S.length → m ≠ n → m < (popS n S).length := fun m h1 h2 => by omega
  refine ⟨upd F (μ n) o, ⟨by rw [List.length_map]; exact rel.len, fun i w hi => ?_⟩, ⟨fun a u q => ?_, fun m c' hm => ?_, fun m m' c1 c2 h1 h2 d1 d2 e => ?_⟩, ⟨g.dom, g.h, g.f.trans sF, fun a u q => ?_, by have := g.len; omega, g.mu, fun m hm => ?_, fun m c' hm hc' dc => ?_⟩⟩
  · rw [List.getElem?_map] at hi
    obtain ⟨x, hx, e⟩ := Option.map_eq_some_iff.mp hi
    cases x with
    | none => cases e
    | some x =>
      obtain ⟨v, h1, h2⟩ := rel.at_ i x hx
      refine ⟨v, h1, ?_⟩
      cases x with
      | v d' => cases e; exact Rp.mono sF _ h2
      | r m =>
        unfold subO at e
        dsimp only at e
        split at e
        · rename_i emn
          cases e
          subst emn
          rw [h2.1]
          exact tree_rp (st.cell m c hn) ht ho
        · rename_i emn
          cases e
          exact ⟨h2.1, lo m h2.2 emn⟩
  · by_cases e : a = μ n
    · subst e; rw [upd_same] at q; cases q; exact ho
    · rw [upd_ne e] at q; exact st.sub _ _ q
  · by_cases dc : c' = .dead
    · subst dc; trivial
    · obtain ⟨hm, ne⟩ := popS_get hm dc
      have q := nr_cell (List.all_eq_true.mp ha c' (List.mem_of_getElem? hm)) (st.cell m c' hm) hN
      refine q.mono (fun _ => rfl) sF (fun _ => ?_) (fun _ _ => rfl) (Nat.le_refl _)
      rw [upd_ne (fun e => ne (st.inj m n c' c hm hn dc hd e))]
      exact (st.cell m c' hm).fnone dc
  · exact st.inj m m' c1 c2 (popS_get h1 d1).1 (popS_get h2 d2).1 d1 d2 e
  · by_cases e : a = μ n
    · subst e; exact .inr (.inl (g.fresh n c hb hn hd))
    · rw [upd_ne e] at q; exact g.new a u q
  · have h1 := g.dd m hm
    have hm0 : m < S0.length := (List.getElem?_eq_some_iff.mp hm).1
    unfold popS
    split
    · rw [List.getElem?_take_of_lt (by omega)]; exact h1
    · rw [List.getElem?_set_ne (by omega)]; exact h1
  · obtain ⟨h1, _⟩ := popS_get hc' dc
    exact g.fresh m c' hm h1 dc
end
section
variable {X : Cx} {M : Nm} {T : Tb} {Z : Zt} {lv b : Nat} {Γ : Env'} {S : Sto}
theorem hfn_of (hfn : ∀ x, X.fn x = true) (x : Str) : X.fn x = true ∨ X.env.scope.names.lookup x = some .local := .inl (hfn x)
/-- a name is set -/
def SndA (X : Cx) (k : Kx) (Γ : Env') (S : Sto) (i : Nat) (st : Stmt) (o : Out W) : Prop := o ≠ .bad → ∀ σ F H μ, RelG k F μ S.length Γ σ → StoOk k F H μ S → ErrE X k σ F H μ S o → ∀ D : Ends, (∀ v H', PoO k F H μ S o v H' → D.nx (σ.set i (some v)) H') → WS X st D σ H
theorem snd_asgLc (C : Cok X M T Z lv) {i : Nat} {x : Str} {p q q' : Pos} {elt : Expr} {gs : List Comprehension} {scope : Scope} (hN : X.N[i]? = some x) (s1 : X.env.scope.names.lookup x = some .local) (hsw : ∀ gs', swapsWith (.ListComp elt gs' scope q') (some (.Name x p)) q.line X.env = pure true) :
    ∀ (c : CE), okE M X.env.scope c (.ListComp elt gs scope q') = true → SndA X (kx X Z) Γ S i (.Assign [.Name x p] (.ListComp elt gs scope q') q) (ev T c Γ S) := by
  intro c
  cases c with
  | lc e' j s =>
    intro hok
    obtain ⟨elt, y, p', iter, scope, q', e0, qq⟩ := iv_lc hok
    cases e0
    obtain ⟨qq, q6⟩ := and_iff qq
    obtain ⟨qq, q5⟩ := and_iff qq
    obtain ⟨qq, q4⟩ := and_iff qq
    obtain ⟨qq, q3⟩ := and_iff qq
    obtain ⟨q1, q2⟩ := and_iff qq
    unfold ev
    intro hb σ F H μ rel st er D hD
    refine .of (ps_setLc (own := [(y, j)]) C.calm C.nd hN s1 (hsw _) WI.pi (by rw [C.hN]; exact blkOk_by q3) (blk_pg C (of_decide_eq_true q1) q2) (fun _ _ _ _ _ => pts_nil) teB_pe (foldedSet_of q5)) ?_
    exact rd_lc (sI s C q4) (fun Γ' S1 s0 H0 Cc cl fp => sE e' (C.blk (iv_blk q3)) q6) (no_en q5) (stp := stp1 j) hg_one hb rel st er hD
  | lcc e' j s t =>
    intro hok
    obtain ⟨elt, y, p', iter, c, scope, q', e0, qq⟩ := iv_lcc hok
    cases e0
    obtain ⟨qq, q7⟩ := and_iff qq
    obtain ⟨qq, q6⟩ := and_iff qq
    obtain ⟨qq, q5⟩ := and_iff qq
    obtain ⟨qq, q4⟩ := and_iff qq
    obtain ⟨qq, q3⟩ := and_iff qq
    obtain ⟨q1, q2⟩ := and_iff qq
    unfold ev
    intro hb σ F H μ rel st er D hD
    refine .of (ps_setLc (own := [(y, j)]) C.calm C.nd hN s1 (hsw _) WI.pi (by rw [C.hN]; exact blkOk_by q3) (blk_pg C (of_decide_eq_true q1) q2) (fun s H Cc cl fp => pts_one (ttB_pt s H Cc cl fp)) teB_pe (foldedSet_of q5)) ?_
    exact rd_lcc (sI s C q4) (fun Γ' S1 s0 H0 Cc cl fp => sE e' (C.blk (iv_blk q3)) q6) (fun Γ' S1 s0 H0 Cc cl fp => sT t (C.blk (iv_blk q3)) q7) (no_en q5) (stp := stp1 j) hg_one hb rel st er hD
  | lcu e' is s =>
    intro hok
    obtain ⟨elt, ts, kk, p', iter, scope, q', e0, qq⟩ := iv_lcu hok
    cases e0
    obtain ⟨qq, q5⟩ := and_iff qq
    obtain ⟨qq, q4⟩ := and_iff qq
    obtain ⟨qq, q3⟩ := and_iff qq
    obtain ⟨q1, q2⟩ := and_iff qq
    unfold ev
    intro hb σ F H μ rel st er D hD
    have p := ps_setLc (elt := elt) (own := ownU is ts) (wi := WI X (.Tuple ts kk p') iter) C.calm C.nd hN s1 (hsw _) WI.pi (by rw [C.hN]; exact blkOk_by q2) (blk_pgt C q1) (fun _ _ _ _ _ => pts_nil) teB_pe (foldedSet_of0 q4)
    rw [ownU_map q1] at p
    refine .of p ?_
    exact rd_lc (sI s C q3) (fun Γ' S1 s0 H0 Cc cl fp => sE e' (C.blk (iv_blk q2)) q5) (fun _ => rfl) hg_tup hb rel st er hD
  | lccu e' is s t =>
    intro hok
    obtain ⟨elt, ts, kk, p', iter, c, scope, q', e0, qq⟩ := iv_lccu hok
    cases e0
    obtain ⟨qq, q6⟩ := and_iff qq
    obtain ⟨qq, q5⟩ := and_iff qq
    obtain ⟨qq, q4⟩ := and_iff qq
    obtain ⟨qq, q3⟩ := and_iff qq
    obtain ⟨q1, q2⟩ := and_iff qq
    unfold ev
    intro hb σ F H μ rel st er D hD
    have p := ps_setLc (elt := elt) (own := ownU is ts) (wi := WI X (.Tuple ts kk p') iter) C.calm C.nd hN s1 (hsw _) WI.pi (by rw [C.hN]; exact blkOk_by q2) (blk_pgt C q1) (fun s H Cc cl fp => pts_one (ttB_pt (e := c) s H Cc cl fp)) teB_pe (foldedSet_of0 q4)
    rw [ownU_map q1] at p
    refine .of p ?_
    exact rd_lcc (sI s C q3) (fun Γ' S1 s0 H0 Cc cl fp => sE e' (C.blk (iv_blk q2)) q5) (fun Γ' S1 s0 H0 Cc cl fp => sT t (C.blk (iv_blk q2)) q6) (fun _ => rfl) hg_tup hb rel st er hD
  | lc2 e' g1 i1 g2 i2 =>
    intro hok
    obtain ⟨elt, t1, iter, t2, iter1, scope, q', e0, qq⟩ := iv_lc2 hok
    cases e0
    obtain ⟨qq, q10⟩ := and_iff qq
    obtain ⟨qq, q9⟩ := and_iff qq
    obtain ⟨qq, q8⟩ := and_iff qq
    obtain ⟨qq, q7⟩ := and_iff qq
    obtain ⟨qq, q6⟩ := and_iff qq
    obtain ⟨qq, q5⟩ := and_iff qq
    obtain ⟨qq, q4⟩ := and_iff qq
    obtain ⟨qq, q3⟩ := and_iff qq
    obtain ⟨q1, q2⟩ := and_iff qq
    unfold ev
    intro hb σ F H μ rel st er D hD
    have p := ps_setLc2 (elt := elt) (iter := iter) (iter1 := iter1) (vs1 := g2.ns) C.calm C.nd hN s1 (hsw _) WI.pi (by rw [C.hN]; exact blkOk_by q3) (by rw [ns_map q1 q2]; exact fun i hi => List.mem_append_right _ hi) (blk_G C q1) (fun _ _ _ _ _ => pts_nil) wiB_pi (blk_G C q2) (fun _ _ _ _ _ => pts_nil) teB_pe (foldedSet_of0 q6) (fun env => foldedSet_of0 q9)
    rw [ns_map q1 q2] at p
    refine .of p ?_
    exact rd_lc2 (sI i1 C q4) (fun Γ' S1 s0 H0 Cc cl fp => sI i2 (C.blk (iv_blk q3)) q7) (enT_of q5) (enT_of q8) (fun S1 Γ1 d o S' h => step_lc2 (fun Γ' S1 s0 H0 Cc cl fp => sE e' (C.blk (iv_blk q3)) q10) S1 Γ1 d o S' h) hb rel st er hD
  | lc2c e' g1 i1 g2 i2 t =>
    intro hok
    obtain ⟨elt, t1, iter, t2, iter1, c, scope, q', e0, qq⟩ := iv_lc2c hok
    cases e0
    obtain ⟨qq, q11⟩ := and_iff qq
    obtain ⟨qq, q10⟩ := and_iff qq
    obtain ⟨qq, q9⟩ := and_iff qq
    obtain ⟨qq, q8⟩ := and_iff qq
    obtain ⟨qq, q7⟩ := and_iff qq
    obtain ⟨qq, q6⟩ := and_iff qq
    obtain ⟨qq, q5⟩ := and_iff qq
    obtain ⟨qq, q4⟩ := and_iff qq
    obtain ⟨qq, q3⟩ := and_iff qq
    obtain ⟨q1, q2⟩ := and_iff qq
    unfold ev
    intro hb σ F H μ rel st er D hD
    have p := ps_setLc2 (elt := elt) (iter := iter) (iter1 := iter1) (vs1 := g2.ns) C.calm C.nd hN s1 (hsw _) WI.pi (by rw [C.hN]; exact blkOk_by q3) (by rw [ns_map q1 q2]; exact fun i hi => List.mem_append_right _ hi) (blk_G C q1) (fun _ _ _ _ _ => pts_nil) wiB_pi (blk_G C q2) (fun s H Cc cl fp => pts_one (ttB_pt (e := c) s H Cc cl fp)) teB_pe (foldedSet_of0 q6) (fun env => foldedSet_of0 q9)
    rw [ns_map q1 q2] at p
    refine .of p ?_
    exact rd_lc2 (sI i1 C q4) (fun Γ' S1 s0 H0 Cc cl fp => sI i2 (C.blk (iv_blk q3)) q7) (enT_of q5) (enT_of q8) (fun S1 Γ1 d o S' h => step_lc2c (fun Γ' S1 s0 H0 Cc cl fp => sE e' (C.blk (iv_blk q3)) q10) (fun Γ' S1 s0 H0 Cc cl fp => sT t (C.blk (iv_blk q3)) q11) S1 Γ1 d o S' h) hb rel st er hD
  | frz a =>
    intro hok
    have ih := snd_asgLc C hN s1 hsw a (iv_frz hok)
    unfold ev
    intro hb σ F H μ rel st er D hD
    cases oa : ev T a Γ S with
    | bad => rw [oa] at hb; exact absurd rfl hb
    | err e S1 =>
      rw [oa] at ih er
      exact ih (by simp) σ F H μ rel st (fun e' S' q => by cases q; exact er e S1 rfl) D fun v H' q => q.elim
    | ok w S1 =>
      rw [oa] at ih hD hb
      refine ih (by simp) σ F H μ rel st .ok D fun v H' q => hD v H' ?_
      have hb : frzW S.length w S1 ≠ .bad := hb
      show PoO _ _ _ _ _ (frzW S.length w S1) _ _
      rcases Out.ne_cases hb with ⟨w', S2, ho⟩ | ⟨e, S2, ho⟩
      · rw [ho]; exact frz_ok q ho
      · unfold frzW at ho
        split at ho
        · cases ho
        · obtain ⟨d, _, ho⟩ := opt_err ho
          obtain ⟨S0, _, ho⟩ := opt_err ho
          cases ho
  | _ => intro hok; exact Bool.noConfusion hok
theorem no_comp1 {sc : Scope} {e : Expr} : ∀ (c : CE), okE M sc c e = true → (∀ a b s p, e ≠ .SetComp a b s p) ∧ (∀ a a' b s p, e ≠ .DictComp a a' b s p)
  | .frz a, h => no_comp1 a (iv_frz h)
  | .var _, h => ⟨fun _ _ _ _ z => by subst z; exact Bool.noConfusion h, fun _ _ _ _ _ z => by subst z; exact Bool.noConfusion h⟩
  | .int _, h => ⟨fun _ _ _ _ z => by subst z; exact Bool.noConfusion h, fun _ _ _ _ _ z => by subst z; exact Bool.noConfusion h⟩
  | .str _, h => ⟨fun _ _ _ _ z => by subst z; exact Bool.noConfusion h, fun _ _ _ _ _ z => by subst z; exact Bool.noConfusion h⟩
  | .bl _, h => ⟨fun _ _ _ _ z => by subst z; exact Bool.noConfusion h, fun _ _ _ _ _ z => by subst z; exact Bool.noConfusion h⟩
  | .non, h => ⟨fun _ _ _ _ z => by subst z; exact Bool.noConfusion h, fun _ _ _ _ _ z => by subst z; exact Bool.noConfusion h⟩
  | .glo _, h => ⟨fun _ _ _ _ z => by subst z; exact Bool.noConfusion h, fun _ _ _ _ _ z => by subst z; exact Bool.noConfusion h⟩
  | .bin _ _ _, h => ⟨fun _ _ _ _ z => by subst z; exact Bool.noConfusion h, fun _ _ _ _ _ z => by subst z; exact Bool.noConfusion h⟩
  | .neg _, h => ⟨fun _ _ _ _ z => by subst z; exact Bool.noConfusion h, fun _ _ _ _ _ z => by subst z; exact Bool.noConfusion h⟩
  | .notv _, h => ⟨fun _ _ _ _ z => by subst z; exact Bool.noConfusion h, fun _ _ _ _ _ z => by subst z; exact Bool.noConfusion h⟩
  | .andv _ _, h => ⟨fun _ _ _ _ z => by subst z; exact Bool.noConfusion h, fun _ _ _ _ _ z => by subst z; exact Bool.noConfusion h⟩
  | .orv _ _, h => ⟨fun _ _ _ _ z => by subst z; exact Bool.noConfusion h, fun _ _ _ _ _ z => by subst z; exact Bool.noConfusion h⟩
  | .cmp _ _ _, h => ⟨fun _ _ _ _ z => by subst z; exact Bool.noConfusion h, fun _ _ _ _ _ z => by subst z; exact Bool.noConfusion h⟩
  | .chain _ _ _ _ _, h => ⟨fun _ _ _ _ z => by subst z; exact Bool.noConfusion h, fun _ _ _ _ _ z => by subst z; exact Bool.noConfusion h⟩
  | .ifx _ _ _, h => ⟨fun _ _ _ _ z => by subst z; exact Bool.noConfusion h, fun _ _ _ _ _ z => by subst z; exact Bool.noConfusion h⟩
  | .tup _, h => ⟨fun _ _ _ _ z => by subst z; exact Bool.noConfusion h, fun _ _ _ _ _ z => by subst z; exact Bool.noConfusion h⟩
  | .lst _, h => ⟨fun _ _ _ _ z => by subst z; exact Bool.noConfusion h, fun _ _ _ _ _ z => by subst z; exact Bool.noConfusion h⟩
  | .idx _ _, h => ⟨fun _ _ _ _ z => by subst z; exact Bool.noConfusion h, fun _ _ _ _ _ z => by subst z; exact Bool.noConfusion h⟩
  | .sli _ _ _, h => ⟨fun _ _ _ _ z => by subst z; exact Bool.noConfusion h, fun _ _ _ _ _ z => by subst z; exact Bool.noConfusion h⟩
  | .call _ _ _, h => ⟨fun _ _ _ _ z => by subst z; exact Bool.noConfusion h, fun _ _ _ _ _ z => by subst z; exact Bool.noConfusion h⟩
  | .calL _ _ _, h => ⟨fun _ _ _ _ z => by subst z; exact Bool.noConfusion h, fun _ _ _ _ _ z => by subst z; exact Bool.noConfusion h⟩
  | .mk _ _ _ _, h => ⟨fun _ _ _ _ z => by subst z; exact Bool.noConfusion h, fun _ _ _ _ _ z => by subst z; exact Bool.noConfusion h⟩
  | .scal _ _ _, h => ⟨fun _ _ _ _ z => by subst z; exact Bool.noConfusion h, fun _ _ _ _ _ z => by subst z; exact Bool.noConfusion h⟩
  | .sup _ _, h => ⟨fun _ _ _ _ z => by subst z; exact Bool.noConfusion h, fun _ _ _ _ _ z => by subst z; exact Bool.noConfusion h⟩
  | .fld _ _, h => ⟨fun _ _ _ _ z => by subst z; exact Bool.noConfusion h, fun _ _ _ _ _ z => by subst z; exact Bool.noConfusion h⟩
  | .prp _ _, h => ⟨fun _ _ _ _ z => by subst z; exact Bool.noConfusion h, fun _ _ _ _ _ z => by subst z; exact Bool.noConfusion h⟩
  | .con _ _, h => ⟨fun _ _ _ _ z => by subst z; exact Bool.noConfusion h, fun _ _ _ _ _ z => by subst z; exact Bool.noConfusion h⟩
  | .ccn _ _, h => ⟨fun _ _ _ _ z => by subst z; exact Bool.noConfusion h, fun _ _ _ _ _ z => by subst z; exact Bool.noConfusion h⟩
  | .mth _ _ _ _, h => ⟨fun _ _ _ _ z => by subst z; exact Bool.noConfusion h, fun _ _ _ _ _ z => by subst z; exact Bool.noConfusion h⟩
  | .mtL _ _ _ _, h => ⟨fun _ _ _ _ z => by subst z; exact Bool.noConfusion h, fun _ _ _ _ _ z => by subst z; exact Bool.noConfusion h⟩
  | .isc _ _, h => ⟨fun _ _ _ _ z => by subst z; exact Bool.noConfusion h, fun _ _ _ _ _ z => by subst z; exact Bool.noConfusion h⟩
  | .isi _ _, h => ⟨fun _ _ _ _ z => by subst z; exact Bool.noConfusion h, fun _ _ _ _ _ z => by subst z; exact Bool.noConfusion h⟩
  | .bi _ _, h => ⟨fun _ _ _ _ z => by subst z; exact Bool.noConfusion h, fun _ _ _ _ _ z => by subst z; exact Bool.noConfusion h⟩
  | .bj _ _ _, h => ⟨fun _ _ _ _ z => by subst z; exact Bool.noConfusion h, fun _ _ _ _ _ z => by subst z; exact Bool.noConfusion h⟩
  | .lrg _ _, h => ⟨fun _ _ _ _ z => by subst z; exact Bool.noConfusion h, fun _ _ _ _ _ z => by subst z; exact Bool.noConfusion h⟩
  | .mt1 _ _ _, h => ⟨fun _ _ _ _ z => by subst z; exact Bool.noConfusion h, fun _ _ _ _ _ z => by subst z; exact Bool.noConfusion h⟩
  | .lc _ _ _, h => ⟨fun _ _ _ _ z => by subst z; exact Bool.noConfusion h, fun _ _ _ _ _ z => by subst z; exact Bool.noConfusion h⟩
  | .lcc _ _ _ _, h => ⟨fun _ _ _ _ z => by subst z; exact Bool.noConfusion h, fun _ _ _ _ _ z => by subst z; exact Bool.noConfusion h⟩
  | .lcu _ _ _, h => ⟨fun _ _ _ _ z => by subst z; exact Bool.noConfusion h, fun _ _ _ _ _ z => by subst z; exact Bool.noConfusion h⟩
  | .lc2 _ _ _ _ _, h => ⟨fun _ _ _ _ z => by subst z; exact Bool.noConfusion h, fun _ _ _ _ _ z => by subst z; exact Bool.noConfusion h⟩
  | .lc2c _ _ _ _ _ _, h => ⟨fun _ _ _ _ z => by subst z; exact Bool.noConfusion h, fun _ _ _ _ _ z => by subst z; exact Bool.noConfusion h⟩
  | .lccu _ _ _ _, h => ⟨fun _ _ _ _ z => by subst z; exact Bool.noConfusion h, fun _ _ _ _ _ z => by subst z; exact Bool.noConfusion h⟩
theorem snd_asg (C : Cok X M T Z lv) (hfn : ∀ x, X.fn x = true) {i : Nat} {c : CE} {x : Str} {p q : Pos} {v : Expr} (hi : M.N[i]? = some x) (hl : locB X.env.scope x = true) (hok : okE M X.env.scope c v = true) : SndA X (kx X Z) Γ S i (.Assign [.Name x p] v q) (ev T c Γ S) := by
  have hN : X.N[i]? = some x := by rw [C.hN]; exact hi
  by_cases hs : swB X.env.scope x p v = true
  · cases v with
    | ListComp elt gs scope q' =>
      have hs : ((X.env.scope.names.lookup x == some .local) && (p.line == q'.line) && !(scope.names.any fun (n, k) => n == x && (k == .local || k == .cell))) = true := hs
      simp only [Bool.and_eq_true, Bool.not_eq_true', beq_iff_eq] at hs
      obtain ⟨⟨s1, s2⟩, s3⟩ := hs
      exact snd_asgLc C hN s1 (fun gs' => sw_true C.kind s1 (by rw [s2]; exact beq_self_eq_true _) s3) c hok
    | SetComp _ _ _ _ => exact absurd rfl ((no_comp1 c hok).1 _ _ _ _)
    | DictComp _ _ _ _ _ => exact absurd rfl ((no_comp1 c hok).2 _ _ _ _ _)
    | _ => exact Bool.noConfusion hs
  · have hs : swB X.env.scope x p v = false := by simpa using hs
    intro hb σ F H μ rel st er D hD
    refine .of (ps_set C.nd hN (locB_loc hl) WE.pe (sw_false C.kind hs) (hfn_of hfn x)) ?_
    exact (sE c C hok hb σ F H μ rel st er).mono hD
theorem snd_set (C : Cok X M T Z lv) (hfn : ∀ x, X.fn x = true) {i : Nat} {c : CE} {x : Str} {p q : Pos} {v : Expr} (hi : M.N[i]? = some x) (hl : locB X.env.scope x = true) (hok : okE M X.env.scope c v = true) : SndS X (kx X Z) b Γ S (.Assign [.Name x p] v q) (liftE Γ (ev T c Γ S) (setK Γ i)) := by
  intro hb F0 H0 μ0 S0 _ σ F H μ rel st g er
  refine snd_asg C hfn hi hl hok (liftE_ne hb) σ F H μ rel st (er.lift g rel) _ fun v H' h => ?_
  cases oa : ev T c Γ S with
  | bad => rw [oa] at h; exact h.elim
  | err e S1 => rw [oa] at h; exact h.elim
  | ok w S1 =>
    rw [oa] at h
    obtain ⟨F1, μ1, g1, s1, r⟩ := h
    exact ⟨_, S1, F1, μ1, rfl, (rel.gr g1).set r, s1, g.trans g1⟩
/-! ### several names at once -/
theorem okU_pgs (C : Cok X M T Z lv) (hfn : ∀ x, X.fn x = true) : ∀ {is : List Nat} {es : List Expr}, okU M X.env.scope is es = true → PGs X es (gsN is) ∧ (assignEach es X.env).length = is.length ∧ (assignEach es X.env).findIdx? (·.1) = none
  | [], [], _ => ⟨pgs_nil, rfl, rfl⟩
  | [], _ :: _, h => Bool.noConfusion h
  | i :: is, [], h => Bool.noConfusion h
  | i :: is, e :: es, h => by
    cases e with
    | Name x p =>
      have h : (decide (M.N[i]? = some x) && locB X.env.scope x && okU M X.env.scope is es) = true := h
      obtain ⟨h, h3⟩ := and_iff h
      obtain ⟨h1, h2⟩ := and_iff h
      obtain ⟨q1, q2, q3⟩ := okU_pgs C hfn h3
      refine ⟨pgs_cons (pg_name C.nd (by rw [C.hN]; exact of_decide_eq_true h1) (locB_loc h2) (hfn_of hfn x)) q1 rfl, ?_, ?_⟩
      · show (assignEach es X.env).length + 1 = _
        rw [q2]; rfl
      · show List.findIdx? _ ((false, assign (.Name x p) X.env) :: assignEach es X.env) = none
        rw [List.findIdx?_cons]
        simp [q3]
    | _ => exact Bool.noConfusion h
theorem snd_unp (C : Cok X M T Z lv) (hfn : ∀ x, X.fn x = true) {is : List Nat} {es : List Expr} {kk : Nat} {c : CE} {p q : Pos} {v : Expr} (hu : okU M X.env.scope is es = true) (hok : okE M X.env.scope c v = true) (hc : noComp v = true) (ht : noTup v = true) : SndS X (kx X Z) b Γ S (.Assign [.Tuple es kk p] v q) (liftE Γ (ev T c Γ S) (unpK Γ is)) := by
  intro hb F0 H0 μ0 S0 _ σ F H μ rel st g er
  obtain ⟨q1, q2, q3⟩ := okU_pgs C hfn hu
  have fin : ∀ {x : W} {S1 : Sto} {F1 H1 : Hp} {μ1 : Nat → Addr} {l : List W} {vs : List V}, unpK Γ is x S1 ≠ .bad → seqOf S1 x = some l → RelG (kx X Z) F1 μ1 S1.length Γ σ → StoOk (kx X Z) F1 H1 μ1 S1 → Gr F0 H0 μ0 S0 F1 H1 μ1 S1 → RpWs (kx X Z) F1 μ1 S1.length l vs → vs.length = is.length ∧ gsN is vs σ H1 (PostS (kx X Z) F0 H0 μ0 S0 (unpK Γ is x S1)).nx := by
    intro x S1 F1 H1 μ1 l vs hb1 hl rel1 s1 g1 hv
    have e : unpK Γ is x S1 = needS (l.length = is.length) (.nx (setAll is l Γ) S1) := by unfold unpK; rw [hl]; rfl
    rw [e] at hb1 ⊢
    obtain ⟨hlen, _⟩ := needS_ne hb1
    rw [needS_pos hlen]
    exact ⟨by rw [hv.len]; exact hlen, gsN_run hlen rel1 hv fun σ' rel' => ⟨_, S1, F1, μ1, rfl, rel', s1, g1⟩⟩
  cases oa : ev T c Γ S with
  | bad => rw [oa] at hb; exact absurd rfl hb
  | err e S1 =>
    refine .of (ps_asg WE.pe (pg_tup C.calm q1 q2 q3) (sw_tup hc) (sws_tup ht)) ?_
    exact (sE c C hok (liftE_ne hb) σ F H μ rel st (er.lift g rel)).mono fun v H1 h => by rw [oa] at h; exact h.elim
  | ok x S1 =>
    have hb1 : unpK Γ is x S1 ≠ .bad := by rw [oa] at hb; exact hb
    obtain ⟨l, hl, _⟩ := optS_ne (show optS (seqOf S1 x) _ ≠ .bad from hb1)
    cases hls : listOf S1 x with
    | none =>
      refine .of (ps_asg WE.pe (pg_tup C.calm q1 q2 q3) (sw_tup hc) (sws_tup ht)) ?_
      refine (sE c C hok (liftE_ne hb) σ F H μ rel st (er.lift g rel)).mono fun v H1 h => ?_
      rw [oa] at h
      obtain ⟨F1, μ1, g1, s1, r⟩ := h
      obtain ⟨a, vs, rfl, hs, hv⟩ := tup_at s1 r hl hls
      obtain ⟨h1, h2⟩ := fin hb1 hl (rel.gr g1) s1 (g.trans g1) hv
      exact ⟨a, vs, rfl, hs, h1, h2⟩
    | some m =>
      refine .of (ps_asg WE.pe (pg_unl C.calm q1 q2 q3) (sw_tup hc) (sws_tup ht)) ?_
      refine (sE c C hok (liftE_ne hb) σ F H μ rel st (er.lift g rel)).mono fun v H1 h => ?_
      rw [oa] at h
      obtain ⟨F1, μ1, g1, s1, r⟩ := h
      obtain ⟨a, vs, rfl, hs, hv⟩ := seq_at s1 r hl
      obtain ⟨a', vs', e', hs', _⟩ := list_sq s1 r hls
      cases e'
      rcases hs with hs | hs
      · obtain ⟨h1, h2⟩ := fin hb1 hl (rel.gr g1) s1 (g.trans g1) hv
        exact ⟨a, vs, rfl, hs, h1, h2⟩
      · have hm : m = l := by
          cases x with
          | r n => simp only [listOf] at hls; simp only [seqOf] at hl; split at hls <;> rename_i hc' <;> first | (cases hls; rw [hc'] at hl; cases hl; rfl) | cases hls
          | v d => cases d <;> simp only [listOf] at hls <;> first | (cases hls; cases hl; rfl) | cases hls
        subst hm
        obtain ⟨a2, vs2, e2, hs2, hv2⟩ := list_sq s1 r hls
        cases e2
        obtain ⟨h1, h2⟩ := fin hb1 hl (rel.gr g1) s1 (g.trans g1) hv2
        exact ⟨a, vs2, rfl, hs2, h1, h2⟩
end
end NV

namespace NV
open PySem L2
section
variable {M : Nm} {sc : Scope} {e : Stmt}
theorem ivs_set {i : Nat} {c : CE} (h : okS M sc (.set i c) e = true) : ∃ x p v q, e = .Assign [.Name x p] v q ∧ (decide (M.N[i]? = some x) && locB sc x && okE M sc c v) = true := by
  cases e with
  | Assign ts v q =>
    match ts, h with
    | [t], h => cases t <;> first | exact Bool.noConfusion h | exact ⟨_, _, _, _, rfl, h⟩
    | [], h => exact Bool.noConfusion h
    | t :: _ :: _, h => cases t <;> exact Bool.noConfusion h
  | _ => exact Bool.noConfusion h
theorem ivs_ex {c : CE} (h : okS M sc (.ex c) e = true) : ∃ v p, e = .Expr v p ∧ (okE M sc c v && noComp v) = true := by
  cases e <;> first | exact Bool.noConfusion h | exact ⟨_, _, rfl, h⟩
theorem ivs_ret {c : CE} (h : okS M sc (.ret c) e = true) : ∃ v p, e = .Return (some v) p ∧ okE M sc c v = true := by
  cases e with
  | Return o p => cases o <;> first | exact Bool.noConfusion h | exact ⟨_, _, rfl, h⟩
  | _ => exact Bool.noConfusion h
theorem ivs_ret0 (h : okS M sc .ret0 e = true) : ∃ p, e = .Return none p := by
  cases e with
  | Return o p => cases o <;> first | exact Bool.noConfusion h | exact ⟨_, rfl⟩
  | _ => exact Bool.noConfusion h
theorem ivs_ite {t : CT} {a b : CB} (h : okS M sc (.ite t a b) e = true) : ∃ c x y p, e = .If c x y p ∧ (okT' M sc t c && okBk M sc a x && okBk M sc b y) = true := by
  cases e <;> first | exact Bool.noConfusion h | exact ⟨_, _, _, _, rfl, h⟩
theorem ivs_fr {i : Nat} {s : CI} {b : CB} (h : okS M sc (.fr i s b) e = true) : ∃ x p iter body q, e = .For (.Name x p) iter body [] q ∧ (decide (M.N[i]? = some x) && locB sc x && okI M sc s iter && noSet iter && okBk M sc b body) = true := by
  cases e with
  | For t iter body els q =>
    cases t with
    | Name x p => cases els <;> first | exact Bool.noConfusion h | exact ⟨_, _, _, _, _, rfl, h⟩
    | _ => exact Bool.noConfusion h
  | _ => exact Bool.noConfusion h
theorem ivs_fru {is : List Nat} {s : CI} {b : CB} (h : okS M sc (.fru is s b) e = true) : ∃ ts kk p iter body q, e = .For (.Tuple ts kk p) iter body [] q ∧ (okU M sc is ts && okI M sc s iter && noSet0 iter && okBk M sc b body) = true := by
  cases e with
  | For t iter body els q =>
    cases t with
    | Tuple ts kk p => cases els <;> first | exact Bool.noConfusion h | exact ⟨_, _, _, _, _, _, rfl, h⟩
    | _ => exact Bool.noConfusion h
  | _ => exact Bool.noConfusion h
theorem ivs_clr {o : CE} (h : okS M sc (.clr o) e = true) : ∃ x ap q r, e = .Expr (.Call (.Attribute x "clear" ap) [] [] q) r ∧ (okE M sc o x && noSuper x && (ap.endLine == q.line)) = true := by
  cases e with
  | Expr v r =>
    cases v with
    | Call g es ks q =>
      cases g with
      | Attribute x nm ap =>
          match es, ks, h with
          | [], [], h =>
            have h : (okE M sc o x && noSuper x && decide (nm = ("clear" : Str)) && (ap.endLine == q.line)) = true := h
            simp only [Bool.and_eq_true, decide_eq_true_eq] at h
            obtain ⟨⟨⟨h1, h2⟩, rfl⟩, h4⟩ := h
            exact ⟨_, _, _, _, rfl, by simp [h1, h2, h4]⟩
          | [], _ :: _, h => exact Bool.noConfusion h
          | _ :: _, _, h => exact Bool.noConfusion h
      | _ => exact Bool.noConfusion h
    | _ => exact Bool.noConfusion h
  | _ => exact Bool.noConfusion h
theorem ivs_rvs {o : CE} (h : okS M sc (.rvs o) e = true) : ∃ x ap q r, e = .Expr (.Call (.Attribute x "reverse" ap) [] [] q) r ∧ (okE M sc o x && noSuper x && (ap.endLine == q.line)) = true := by
  cases e with
  | Expr v r =>
    cases v with
    | Call g es ks q =>
      cases g with
      | Attribute x nm ap =>
          match es, ks, h with
          | [], [], h =>
            have h : (okE M sc o x && noSuper x && decide (nm = ("reverse" : Str)) && (ap.endLine == q.line)) = true := h
            simp only [Bool.and_eq_true, decide_eq_true_eq] at h
            obtain ⟨⟨⟨h1, h2⟩, rfl⟩, h4⟩ := h
            exact ⟨_, _, _, _, rfl, by simp [h1, h2, h4]⟩
          | [], _ :: _, h => exact Bool.noConfusion h
          | _ :: _, _, h => exact Bool.noConfusion h
      | _ => exact Bool.noConfusion h
    | _ => exact Bool.noConfusion h
  | _ => exact Bool.noConfusion h
theorem ivs_ins {o ix c : CE} (h : okS M sc (.ins o ix c) e = true) : ∃ x ap y z q r, e = .Expr (.Call (.Attribute x "insert" ap) [y, z] [] q) r ∧ (okE M sc o x && noSuper x && okE M sc ix y && noStar y && okE M sc c z && noStar z && (ap.endLine == q.line)) = true := by
  cases e with
  | Expr v r =>
    cases v with
    | Call g es ks q =>
      cases g with
      | Attribute x nm ap =>
          match es, ks, h with
          | [y, z], [], h =>
            have h : (okE M sc o x && noSuper x && decide (nm = ("insert" : Str)) && okE M sc ix y && noStar y && okE M sc c z && noStar z && (ap.endLine == q.line)) = true := h
            simp only [Bool.and_eq_true, decide_eq_true_eq] at h
            obtain ⟨⟨⟨⟨⟨⟨⟨h1, h2⟩, rfl⟩, h4⟩, h5⟩, h6⟩, h7⟩, h8⟩ := h
            exact ⟨_, _, _, _, _, _, rfl, by simp [h1, h2, h4, h5, h6, h7, h8]⟩
          | [], _, h => exact Bool.noConfusion h
          | [_], _, h => exact Bool.noConfusion h
          | [_, _], _ :: _, h => exact Bool.noConfusion h
          | _ :: _ :: _ :: _, _, h => exact Bool.noConfusion h
      | _ => exact Bool.noConfusion h
    | _ => exact Bool.noConfusion h
  | _ => exact Bool.noConfusion h
theorem ivs_del0 {o : CE} (h : okS M sc (.del o .no) e = true) : ∃ x ap q r, e = .Expr (.Call (.Attribute x "pop" ap) [] [] q) r ∧ (okE M sc o x && noSuper x && (ap.endLine == q.line)) = true := by
  cases e with
  | Expr v r =>
    cases v with
    | Call g es ks q =>
      cases g with
      | Attribute x nm ap =>
          match es, ks, h with
          | [], [], h =>
            have h : (okE M sc o x && noSuper x && decide (nm = ("pop" : Str)) && (ap.endLine == q.line)) = true := h
            simp only [Bool.and_eq_true, decide_eq_true_eq] at h
            obtain ⟨⟨⟨h1, h2⟩, rfl⟩, h4⟩ := h
            exact ⟨_, _, _, _, rfl, by simp [h1, h2, h4]⟩
          | [], _ :: _, h => exact Bool.noConfusion h
          | _ :: _, _, h => exact Bool.noConfusion h
      | _ => exact Bool.noConfusion h
    | _ => exact Bool.noConfusion h
  | _ => exact Bool.noConfusion h
theorem ivs_del1 {o ix : CE} (h : okS M sc (.del o (.so ix)) e = true) : ∃ x ap y q r, e = .Expr (.Call (.Attribute x "pop" ap) [y] [] q) r ∧ (okE M sc o x && noSuper x && okE M sc ix y && noStar y && (ap.endLine == q.line)) = true := by
  cases e with
  | Expr v r =>
    cases v with
    | Call g es ks q =>
      cases g with
      | Attribute x nm ap =>
          match es, ks, h with
          | [y], [], h =>
            have h : (okE M sc o x && noSuper x && decide (nm = ("pop" : Str)) && okE M sc ix y && noStar y && (ap.endLine == q.line)) = true := h
            simp only [Bool.and_eq_true, decide_eq_true_eq] at h
            obtain ⟨⟨⟨⟨⟨h1, h2⟩, rfl⟩, h4⟩, h5⟩, h6⟩ := h
            exact ⟨_, _, _, _, _, rfl, by simp [h1, h2, h4, h5, h6]⟩
          | [], _, h => exact Bool.noConfusion h
          | [_], _ :: _, h => exact Bool.noConfusion h
          | _ :: _ :: _, _, h => exact Bool.noConfusion h
      | _ => exact Bool.noConfusion h
    | _ => exact Bool.noConfusion h
  | _ => exact Bool.noConfusion h
theorem ivs_setp0 {i : Nat} {o : CE} (h : okS M sc (.setp i o .no) e = true) : ∃ v p x ap q r, e = .Assign [.Name v p] (.Call (.Attribute x "pop" ap) [] [] q) r ∧ (decide (M.N[i]? = some v) && locB sc v && okE M sc o x && noSuper x && (ap.endLine == q.line)) = true := by
  cases e with
  | Assign ts v r =>
    match ts, h with
    | [t], h =>
      cases t with
      | Name nv p =>
        cases v with
        | Call g es ks q =>
          cases g with
          | Attribute x nm ap =>
            match es, ks, h with
            | [], [], h =>
              have h : (decide (M.N[i]? = some nv) && locB sc nv && okE M sc o x && noSuper x && decide (nm = ("pop" : Str)) && (ap.endLine == q.line)) = true := h
              simp only [Bool.and_eq_true, decide_eq_true_eq] at h
              obtain ⟨⟨⟨⟨⟨h0, h0'⟩, h1⟩, h2⟩, rfl⟩, h4⟩ := h
              exact ⟨_, _, _, _, _, _, rfl, by simp [h0, h0', h1, h2, h4]⟩
            | [], _ :: _, h => exact Bool.noConfusion h
            | _ :: _, _, h => exact Bool.noConfusion h
          | _ => exact Bool.noConfusion h
        | _ => exact Bool.noConfusion h
      | _ => exact Bool.noConfusion h
    | [], h => exact Bool.noConfusion h
    | t :: _ :: _, h => cases t <;> exact Bool.noConfusion h
  | _ => exact Bool.noConfusion h
theorem ivs_setp1 {i : Nat} {o ix : CE} (h : okS M sc (.setp i o (.so ix)) e = true) : ∃ v p x ap y q r, e = .Assign [.Name v p] (.Call (.Attribute x "pop" ap) [y] [] q) r ∧ (decide (M.N[i]? = some v) && locB sc v && okE M sc o x && noSuper x && okE M sc ix y && noStar y && (ap.endLine == q.line)) = true := by
  cases e with
  | Assign ts v r =>
    match ts, h with
    | [t], h =>
      cases t with
      | Name nv p =>
        cases v with
        | Call g es ks q =>
          cases g with
          | Attribute x nm ap =>
            match es, ks, h with
            | [y], [], h =>
              have h : (decide (M.N[i]? = some nv) && locB sc nv && okE M sc o x && noSuper x && decide (nm = ("pop" : Str)) && okE M sc ix y && noStar y && (ap.endLine == q.line)) = true := h
              simp only [Bool.and_eq_true, decide_eq_true_eq] at h
              obtain ⟨⟨⟨⟨⟨⟨⟨h0, h0'⟩, h1⟩, h2⟩, rfl⟩, h4⟩, h5⟩, h6⟩ := h
              exact ⟨_, _, _, _, _, _, _, rfl, by simp [h0, h0', h1, h2, h4, h5, h6]⟩
            | [], _, h => exact Bool.noConfusion h
            | [_], _ :: _, h => exact Bool.noConfusion h
            | _ :: _ :: _, _, h => exact Bool.noConfusion h
          | _ => exact Bool.noConfusion h
        | _ => exact Bool.noConfusion h
      | _ => exact Bool.noConfusion h
    | [], h => exact Bool.noConfusion h
    | t :: _ :: _, h => cases t <;> exact Bool.noConfusion h
  | _ => exact Bool.noConfusion h
theorem ivs_brk (h : okS M sc .brk e = true) : ∃ p, e = .Break p := by
  cases e <;> first | exact Bool.noConfusion h | exact ⟨_, rfl⟩
theorem ivs_cnt (h : okS M sc .cnt e = true) : ∃ p, e = .Continue p := by
  cases e <;> first | exact Bool.noConfusion h | exact ⟨_, rfl⟩
theorem ivs_pas (h : okS M sc .pas e = true) : ∃ p, e = .Pass p := by
  cases e <;> first | exact Bool.noConfusion h | exact ⟨_, rfl⟩
theorem ivs_unp {is : List Nat} {c : CE} (h : okS M sc (.unp is c) e = true) : ∃ es a p v q, e = .Assign [.Tuple es a p] v q ∧ (okU M sc is es && okE M sc c v && noComp v && noTup v) = true := by
  cases e with
  | Assign ts v q =>
    match ts, h with
    | [t], h => cases t <;> first | exact Bool.noConfusion h | exact ⟨_, _, _, _, _, rfl, h⟩
    | [], h => exact Bool.noConfusion h
    | t :: _ :: _, h => cases t <;> exact Bool.noConfusion h
  | _ => exact Bool.noConfusion h
theorem ivs_sfld {i : Nat} {a : Str} {c : CE} (h : okS M sc (.sfld i a c) e = true) : ∃ x p nm p' v q, e = .Assign [.Attribute (.Name x p) nm p'] v q ∧ (visB sc x && decide (M.N[i]? = some x) && nmB x && decide (a = nm) && okE M sc c v && noComp v) = true := by
  cases e with
  | Assign ts v q =>
    match ts, h with
    | [t], h =>
      cases t with
      | Attribute o nm r => cases o <;> first | exact Bool.noConfusion h | exact ⟨_, _, _, _, _, _, rfl, h⟩
      | _ => exact Bool.noConfusion h
    | [], h => exact Bool.noConfusion h
    | t :: _ :: _, h =>
      cases t with
      | Attribute o nm r => cases o <;> exact Bool.noConfusion h
      | _ => exact Bool.noConfusion h
  | _ => exact Bool.noConfusion h
theorem ivs_sidx {o ix c : CE} (h : okS M sc (.sidx o ix c) e = true) : ∃ x y r v q, e = .Assign [.Subscript x y r] v q ∧ (okE M sc o x && okE M sc ix y && okE M sc c v && noSlice y) = true := by
  cases e with
  | Assign ts v q =>
    match ts, h with
    | [t], h => cases t <;> first | exact Bool.noConfusion h | exact ⟨_, _, _, _, _, rfl, h⟩
    | [], h => exact Bool.noConfusion h
    | t :: _ :: _, h => cases t <;> exact Bool.noConfusion h
  | _ => exact Bool.noConfusion h
theorem ivs_app {o c : CE} (h : okS M sc (.app o c) e = true) : ∃ x ap y q r, e = .Expr (.Call (.Attribute x "append" ap) [y] [] q) r ∧ (okE M sc o x && noSuper x && okE M sc c y && noStar y && (ap.endLine == q.line)) = true := by
  cases e with
  | Expr v r =>
    cases v with
    | Call g es ks q =>
      cases g with
      | Attribute x nm ap =>
          match es, ks, h with
          | [y], [], h =>
            have h : (okE M sc o x && noSuper x && decide (nm = ("append" : Str)) && okE M sc c y && noStar y && (ap.endLine == q.line)) = true := h
            simp only [Bool.and_eq_true, decide_eq_true_eq] at h
            obtain ⟨⟨⟨⟨⟨h1, h2⟩, rfl⟩, h4⟩, h5⟩, h6⟩ := h
            exact ⟨_, _, _, _, _, rfl, by simp [h1, h2, h4, h5, h6]⟩
          | [], _, h => exact Bool.noConfusion h
          | [_], _ :: _, h => exact Bool.noConfusion h
          | _ :: _ :: _, _, h => exact Bool.noConfusion h
      | _ => exact Bool.noConfusion h
    | _ => exact Bool.noConfusion h
  | _ => exact Bool.noConfusion h
end
section
variable {X : Cx} {M : Nm} {T : Tb} {Z : Zt} {lv b : Nat} {Γ : Env'} {S : Sto}
theorem needS_eq {c : Prop} {i : Decidable c} {o O : SOut} (h : @needS c i o = O) (hb : O ≠ .bad) : c ∧ o = O := by
  subst h
  obtain ⟨h1, h2⟩ := needS_ne hb
  exact ⟨h1, (needS_pos h1).symm⟩
theorem ixOf_ne {c : Nat} {a : Str} {i : Nat} (h : ixOf a (T.ci c).flds = some i) : T.ci c ≠ default := fun e => by rw [e] at h; cases h
theorem snd_sfld (C : Cok X M T Z lv) {i : Nat} {a : Str} {c : CE} {x : Str} {p p' q : Pos} {v : Expr} (hv : visB X.env.scope x = true) (hi : M.N[i]? = some x) (hn : nmB x = true) (hok : okE M X.env.scope c v = true) (hc : noComp v = true) :
    SndS X (kx X Z) b Γ S (.Assign [.Attribute (.Name x p) a p'] v q) (liftE Γ (ev T c Γ S) (sfldK T Γ i a)) := by
  intro hb F0 H0 μ0 S0 _ σ F H μ rel st g er
  refine .of (ps_fld (pe_var (by rw [C.hN]; exact hi) (visB_vis hv) (nmB_d hn).1 (nmB_d hn).2) WE.pe (sw_any hc)) ?_
  refine (sE c C hok).ths hb rel st g er fun w S1 e1 F1 H1 μ1 u g1 g01 s1 r1 hb1 er1 => ?_
  have rel1 := rel.gr g1
  rw [show liftE Γ (ev T c Γ S) (sfldK T Γ i a) = sfldK T Γ i a w S1 from by rw [e1]; rfl]
  unfold sfldK at hb1 ⊢
  split at hb1
  · rename_i n hΓ
    split at hb1
    · rename_i cc l hn'
      obtain ⟨kk, hk, hb1⟩ := optS_ne hb1
      obtain ⟨l', hl', _⟩ := optS_ne hb1
      obtain ⟨vv, hσ, hvv⟩ := rel1.at_ i _ hΓ
      obtain ⟨rfl, hlt⟩ := hvv
      obtain ⟨dx, fs, vs, h1, h2, h3, h4⟩ := s1.cell _ _ hn'
      have CF := C.clf (ixOf_ne hk)
      have hci : (kx X Z).ci cc = T.ci cc := by rw [show (kx X Z).ci = Z.ci from rfl, C.ci]
      have hg := ixOf_get hk
      refine ⟨_, hσ, μ1 n, Z.ca cc, dx, fs, rfl, h1, CF.cls, CF.noat _ (List.mem_of_getElem? hg), ?_, ?_⟩
      · have := h3.few
        have := h3.le
        rw [hci] at this
        have := CF.few
        omega
      · simp only [hΓ, hn', hk, hl', optS_some]
        rw [hci] at h3
        obtain ⟨p1, p2⟩ := h3.put CF.nd hg (v := u)
        have key : ∃ vs', FldOk (T.ci cc).flds vs' (putF a u fs) ∧ RpWs (kx X Z) F1 μ1 S1.length l' vs' := by
          unfold putA at hl'
          rw [← h4.len] at hl'
          split at hl'
          · rename_i hlt'
            cases hl'
            exact ⟨_, p1 hlt', h4.set r1 kk⟩
          · split at hl'
            · rename_i heq
              cases hl'
              exact ⟨_, p2 heq, h4.app (.one r1)⟩
            · cases hl'
        obtain ⟨vs', k1, k2⟩ := key
        obtain ⟨g2, s2⟩ := Gr.wr s1 hn' (c' := .ins cc l') (by simp) (by simp) (.ins (Z.ca cc) dx (putF a u fs)) ⟨dx, _, vs', upd_same, h2, by rw [hci]; exact k1, k2⟩
        exact ⟨Γ, _, F1, μ1, rfl, by rw [List.length_set]; exact rel1, s2, g01.trans g2⟩
    · exact absurd rfl hb1
  · exact absurd rfl hb1
theorem snd_sidx (C : Cok X M T Z lv) {o ix c : CE} {x y v : Expr} {r q : Pos} (h1 : okE M X.env.scope o x = true) (h2 : okE M X.env.scope ix y = true) (h3 : okE M X.env.scope c v = true) (hs : noSlice y = true) :
    SndS X (kx X Z) b Γ S (.Assign [.Subscript x y r] v q) (liftE Γ (ev T c Γ S) (six1 Γ (ev T o Γ) (ev T ix Γ))) := by
  intro hb F0 H0 μ0 S0 _ σ F H μ rel st g er
  refine .of (ps_asg WE.pe (pg_sub WE.pe WE.pe set_list (assign_sub hs)) sw_sub sws_sub) ?_
  refine (sE c C h3).ths hb rel st g er fun w S1 e1 F1 H1 μ1 u g1 g01 s1 r1 hb1 er1 => ?_
  refine (sE o C h1).ths (f := six2 Γ (ev T ix Γ) w) hb1 (rel.gr g1) s1 g01 er1 fun xo S2 e2 F2 H2 μ2 uo g2 g02 s2 r2 hb2 er2 => ?_
  refine (sE ix C h2).ths (f := six3 Γ w xo) hb2 ((rel.gr g1).gr g2) s2 g02 er2 fun yi S3 e3 F3 H3 μ3 ui g3 g03 s3 r3 hb3 er3 => ?_
  have ee : liftE Γ (ev T c Γ S) (six1 Γ (ev T o Γ) (ev T ix Γ)) = six3 Γ w xo yi S3 := by
    rw [e1]; show liftE Γ (ev T o Γ S1) (six2 Γ (ev T ix Γ) w) = _
    rw [e2]; show liftE Γ (ev T ix Γ S2) (six3 Γ w xo) = _
    rw [e3]; rfl
  rw [ee]
  unfold six3 at hb3 ⊢
  obtain ⟨kk, hk, hb3⟩ := optS_ne hb3
  simp only [hk, optS_some]
  have hi := int_at r3 hk
  obtain ⟨n, l, l', vs, rfl, hn, hf, rfl, hH, hv, em⟩ := mut_ok s3 (r2.gr g3) hb3
  rw [em]
  unfold sixF at hf
  cases hj : ixN l.length kk with
  | none => rw [hj] at hf; cases hf
  | some j =>
    rw [hj] at hf
    cases hf
    refine ⟨_, vs, kk, j, rfl, hi, hH, by rw [hv.len]; exact hj, ?_⟩
    obtain ⟨q1, q2, q3⟩ := set_cell (((rel.gr g1).gr g2).gr g3) s3 g03 hn (hv.set ((r1.gr g2).gr g3) j)
    exact ⟨Γ, _, F3, μ3, rfl, q1, q2, q3⟩
theorem snd_app (C : Cok X M T Z lv) {o c : CE} {x y : Expr} {ap q r : Pos} (h1 : okE M X.env.scope o x = true) (hu : noSuper x = true) (h2 : okE M X.env.scope c y = true) (hs : noStar y = true) (hl : (ap.endLine == q.line) = true) :
    SndS X (kx X Z) b Γ S (.Expr (.Call (.Attribute x "append" ap) [y] [] q) r) (liftE Γ (ev T o Γ S) (app1 Γ (ev T c Γ))) := by
  intro hb F0 H0 μ0 S0 _ σ F H μ rel st g er
  have se : starEach [y] X.env = (false, eval y X.env) :: starEach [] X.env := starEach_cons hs
  refine .of (ps_expr (pe_bm PySem.F.plainAttrs_list PySem.F.slot_list_append PySem.F.type_list_append mt_append WE.pe (pa_cons WE.pe pa_nil se) (attr_base hu) (by rw [se]; rfl) hl se rfl)) ?_
  refine (sE o C h1).ths hb rel st g er fun xo S1 e1 F1 H1 μ1 u g1 g01 s1 r1 hb1 er1 => ?_
  obtain ⟨l0, hl0, hb2⟩ := optS_ne (show optS (listOf S1 xo) _ ≠ .bad from hb1)
  have ea : app1 Γ (ev T c Γ) xo S1 = liftE Γ (ev T c Γ S1) (app2 Γ xo) := by unfold app1; rw [hl0]; rfl
  rw [ea] at er1
  obtain ⟨pa, us, rfl, hs1, _⟩ := list_at s1 r1 hl0
  refine ⟨.inl ⟨rfl, us, .of hs1⟩, ?_⟩
  refine (sE c C h2).ths hb2 (rel.gr g1) s1 g01 er1 fun w S2 e2 F2 H2 μ2 v g2 g02 s2 r2 hb3 er2 => ?_
  rw [show liftE Γ (ev T o Γ S) (app1 Γ (ev T c Γ)) = app2 Γ xo w S2 from by rw [e1]; show app1 Γ (ev T c Γ) xo S1 = _; rw [ea, e2]; rfl]
  unfold app2 at hb3 ⊢
  obtain ⟨n, l, l', vs, rfl, hn, hf, he, hH, hv, em⟩ := mut_ok s2 (r1.gr g2) hb3
  cases he
  rw [em]
  unfold appF at hf
  split at hf
  · rename_i hz
    cases hf
    refine ⟨_, vs, v, rfl, rfl, hH, by rw [hv.len]; exact hz, ?_⟩
    obtain ⟨q1, q2, q3⟩ := set_cell ((rel.gr g1).gr g2) s2 g02 hn (hv.app (.one r2))
    exact ⟨Γ, _, F2, μ2, rfl, q1, q2, q3⟩
  · cases hf
theorem for_gen (C : Cok X M T Z lv) {tg : Expr} {gt : TG} {stp : W → Env' → Option Env'} {q : Pos} {iter : Expr} {body : List Stmt} {oi : Out W} {ex : Nat → Env' → Sto → SOut} (pg : PG X tg gt) (ht : enI iter = true → isTup tg = true) (hg : ∀ d Γ Γ', stp d Γ = some Γ' → ∀ x σ F H μ (S : Sto), RelG (kx X Z) F μ S.length Γ σ → StoOk (kx X Z) F H μ S → RpW (kx X Z) F μ S.length d x → ∀ Q : St → Hp → Prop, (∀ σ', RelG (kx X Z) F μ S.length Γ' σ' → Q σ' H) → gt x σ H Q) (hs : noSet0 iter = true) (si : SndI X (kx X Z) Γ S iter oi)
    (sb : ∀ b' Γ' S', SndBk X (kx X Z) b' Γ' S' body (ex b' Γ' S')) : SndS X (kx X Z) b Γ S (.For tg iter body [] q) (liftE Γ oi (forG ex stp Γ)) := by
  intro hb F0 H0 μ0 S0 _ σ F H μ rel st g er
  refine .of (ps_for C.pass C.calm WI.pi pg WB.pss (foldedSet_of0 hs)) ?_
  intro pins s I
  refine thn (si (liftE_ne hb) tg ht σ F H μ rel st (er.lift g rel) pins s I) fun v s1 h1 => thn h1 fun itv s2 h2 => ?_
  obtain ⟨it, fp, tn, J, H1, e1, I1, T1, t1, f1, po⟩ := h2
  refine ⟨it, fp, tn, J, H1, e1, I1, T1, t1, f1, ?_⟩
  cases oi with
  | bad => exact po.elim
  | err e S1 => exact po.elim
  | ok w S1 =>
  obtain ⟨F1, μ1, g1, st1, wk⟩ := po
  have hb : optS (sqOf S1 w) (fun p => forW (lpG ex stp) w p p.2 Γ S1) ≠ .bad := hb
  obtain ⟨pp, hp, hb⟩ := optS_ne hb
  have e0 : liftE Γ (.ok w S1) (forG ex stp Γ) = forW (lpG ex stp) w pp pp.2 Γ S1 := by show optS (sqOf S1 w) _ = _; rw [hp]; rfl
  rw [e0] at er ⊢
  have wk := wk pp hp
  generalize hO : forW (lpG ex stp) w pp pp.2 Γ S1 = O at hb er ⊢
  refine ⟨fun j m σ' H' => m = pp.2.length - j ∧ j ≤ pp.2.length ∧ ∃ Γj Fj μj Sj, RelG (kx X Z) Fj μj Sj.length Γj σ' ∧ StoOk (kx X Z) Fj H' μj Sj ∧ Gr F0 H0 μ0 S0 Fj H' μj Sj ∧ Gr F1 H1 μ1 S1 Fj H' μj Sj ∧ sqOf Sj w = some pp ∧ forW (lpG ex stp) w pp (pp.2.drop j) Γj Sj = O, ⟨pp.2.length, ?_⟩, ?_⟩
  · exact ⟨by simp, Nat.zero_le _, Γ, F1, μ1, S1, rel.gr g1, st1, g.trans g1, .refl, hp, by simpa using hO⟩
  · rintro j m σ' H' ⟨rfl, hj, Γj, Fj, μj, Sj, relj, stj, gj, gj1, hpj, hr⟩
    obtain ⟨wk1, wk2⟩ := wk j Fj H' μj Sj stj gj1.f gj1.mu gj1.len hpj
    by_cases hlt : j < pp.2.length
    · have hd : pp.2[j]? = some pp.2[j] := List.getElem?_eq_getElem hlt
      obtain ⟨go, yl⟩ := wk1 _ hd
      rw [List.drop_eq_getElem_cons hlt] at hr
      unfold forW at hr
      generalize hB : lpG ex stp pp.2[j] Γj Sj = B at hr
      have hbB : B ≠ .bad := fun z => hb (by rw [← hr, z])
      obtain ⟨Γ', hΓ', _⟩ := optS_ne (show optS (stp pp.2[j] Γj) (fun Γ' => ex Sj.length Γ' Sj) ≠ .bad from fun z => hbB (by rw [← hB]; exact z))
      have hbody : B = ex Sj.length Γ' Sj := by rw [← hB]; show optS (stp pp.2[j] Γj) _ = _; rw [hΓ']; rfl
      refine .inr ⟨go, fun σ2 H2 => ∃ Γ2 F2 μ2 S2, RelG (kx X Z) F2 μ2 S2.length Γ2 σ2 ∧ StoOk (kx X Z) F2 H2 μ2 S2 ∧ Gr F0 H0 μ0 S0 F2 H2 μ2 S2 ∧ Gr F1 H1 μ1 S1 F2 H2 μ2 S2 ∧ sqOf S2 w = some pp ∧ forW (lpG ex stp) w pp (pp.2.drop (j + 1)) Γ2 S2 = O,
        fun σ2 H2 ⟨Γ2, F2, μ2, S2, a1, a2, a3, a4, a5, a6⟩ => ⟨pp.2.length - (j + 1), by omega, rfl, hlt, Γ2, F2, μ2, S2, a1, a2, a3, a4, a5, a6⟩, fun y H2 yy => ?_⟩
      obtain ⟨Fy, μy, gy, sty, hy⟩ := yl y H2 yy
      have gj := gj.trans gy
      have gj1 := gj1.trans gy
      have erB : ErrS X (kx X Z) Fy H2 μy Sj B := fun e Γ' S' q σ3 => by
        subst q
        exact (er.fwd gj) e Γ' S' (by rw [← hr]) σ3
      have key := sb Sj.length Γ' Sj
      rw [← hbody] at key
      refine hg _ Γj Γ' hΓ' y σ' Fy H2 μy Sj (relj.gr gy) sty hy _ fun σ'' rel2 => ?_
      refine (key hbB Fy H2 μy Sj rfl σ'' Fy H2 μy rel2 sty .refl erB).mono ?_ ?_ ?_ ?_
      · rintro σ3 H3 ⟨Γ3, S3, F3, μ3, rfl, a1, a2, a3⟩
        obtain ⟨hq, hr⟩ := needS_eq hr hb
        exact ⟨Γ3, F3, μ3, S3, a1, a2, gj.trans a3, gj1.trans a3, hq, hr⟩
      · rintro v H3 ⟨w', S3, F3, μ3, rfl, a1, a2, a3⟩
        exact ⟨w', S3, F3, μ3, hr.symm, gj.trans a1, a2, a3⟩
      · rintro σ3 H3 ⟨Γ3, S3, F3, μ3, rfl, a1, a2, a3⟩
        exact ⟨Γ3, S3, F3, μ3, hr.symm, a1, a2, gj.trans a3⟩
      · rintro σ3 H3 ⟨Γ3, S3, F3, μ3, rfl, a1, a2, a3⟩
        obtain ⟨hq, hr⟩ := needS_eq hr hb
        exact ⟨Γ3, F3, μ3, S3, a1, a2, gj.trans a3, gj1.trans a3, hq, hr⟩
    · have ej : j = pp.2.length := by omega
      subst ej
      rw [List.drop_length] at hr
      exact .inl ⟨wk2 rfl, Γj, Sj, Fj, μj, hr.symm, relj, stj, gj⟩
theorem snd_for (C : Cok X M T Z lv) (hfn : ∀ x, X.fn x = true) {i : Nat} {x : Str} {p q : Pos} {iter : Expr} {body : List Stmt} {oi : Out W} {ex : Nat → Env' → Sto → SOut} (hi : M.N[i]? = some x) (hl : locB X.env.scope x = true) (hs : noSet iter = true) (si : SndI X (kx X Z) Γ S iter oi)
    (sb : ∀ b' Γ' S', SndBk X (kx X Z) b' Γ' S' body (ex b' Γ' S')) : SndS X (kx X Z) b Γ S (.For (.Name x p) iter body [] q) (liftE Γ oi (forK ex Γ i)) :=
  for_gen (stp := stp1 i) C (pg_name C.nd (by rw [C.hN]; exact hi) (locB_loc hl) (hfn_of hfn x)) (no_en hs) (fun d Γ Γ' h x σ F H μ S rel st hx Q hQ => by
    cases h
    exact hQ _ (rel.set hx)) (noSet_0 hs) si sb
theorem snd_fru (C : Cok X M T Z lv) (hfn : ∀ x, X.fn x = true) {is : List Nat} {ts : List Expr} {kk : Nat} {p q : Pos} {iter : Expr} {body : List Stmt} {oi : Out W} {ex : Nat → Env' → Sto → SOut} (hu : okU M X.env.scope is ts = true) (hs : noSet0 iter = true) (si : SndI X (kx X Z) Γ S iter oi)
    (sb : ∀ b' Γ' S', SndBk X (kx X Z) b' Γ' S' body (ex b' Γ' S')) : SndS X (kx X Z) b Γ S (.For (.Tuple ts kk p) iter body [] q) (liftE Γ oi (forG ex (stpU is) Γ)) := by
  obtain ⟨q1, q2, q3⟩ := okU_pgs C hfn hu
  refine for_gen C (pg_tup C.calm q1 q2 q3) (fun _ => rfl) (fun d Γ Γ' h x σ F H μ S rel st hx Q hQ => ?_) hs si sb
  obtain ⟨l, rfl, hl, rfl⟩ := stpU_some h
  simp only [RpW, Rp] at hx
  obtain ⟨a, vs, rfl, h2, h3⟩ := hx
  exact ⟨a, vs, rfl, sqT_mono st.sub h2, by rw [h3.len]; exact hl, gsN_run (by simpa using hl) rel h3.ws fun σ' r' => hQ σ' r'⟩
theorem snd_clr (C : Cok X M T Z lv) {o : CE} {x : Expr} {ap q r : Pos} (h1 : okE M X.env.scope o x = true) (hu : noSuper x = true) (hl : (ap.endLine == q.line) = true) :
    SndS X (kx X Z) b Γ S (.Expr (.Call (.Attribute x "clear" ap) [] [] q) r) (liftE Γ (ev T o Γ S) (clr1 Γ)) := by
  intro hb F0 H0 μ0 S0 _ σ F H μ rel st g er
  refine .of (ps_expr (pe_bm0 PySem.F.plainAttrs_list PySem.F.slot_list_clear PySem.F.type_list_clear mt_clear WE.pe (attr_base hu) hl)) ?_
  refine (sE o C h1).ths hb rel st g er fun xo S1 e1 F1 H1 μ1 u g1 g01 s1 r1 hb1 er1 => ?_
  rw [show liftE Γ (ev T o Γ S) (clr1 Γ) = clr1 Γ xo S1 from by rw [e1]; rfl]
  unfold clr1 at hb1 ⊢
  obtain ⟨n, l, l', vs, rfl, hn, hf, rfl, hH, hv, em⟩ := mut_ok s1 r1 hb1
  rw [em]
  cases hf
  refine ⟨.inl ⟨rfl, vs, .of hH⟩, _, vs, rfl, rfl, hH, ?_⟩
  obtain ⟨q1, q2, q3⟩ := set_cell (rel.gr g1) s1 g01 hn (RpWs.nil')
  exact ⟨Γ, _, F1, μ1, rfl, q1, q2, q3⟩
theorem snd_rvs (C : Cok X M T Z lv) {o : CE} {x : Expr} {ap q r : Pos} (h1 : okE M X.env.scope o x = true) (hu : noSuper x = true) (hl : (ap.endLine == q.line) = true) :
    SndS X (kx X Z) b Γ S (.Expr (.Call (.Attribute x "reverse" ap) [] [] q) r) (liftE Γ (ev T o Γ S) (rvs1 Γ)) := by
  intro hb F0 H0 μ0 S0 _ σ F H μ rel st g er
  refine .of (ps_expr (pe_bm0 PySem.F.plainAttrs_list PySem.F.slot_list_reverse PySem.F.type_list_reverse mt_reverse WE.pe (attr_base hu) hl)) ?_
  refine (sE o C h1).ths hb rel st g er fun xo S1 e1 F1 H1 μ1 u g1 g01 s1 r1 hb1 er1 => ?_
  rw [show liftE Γ (ev T o Γ S) (rvs1 Γ) = rvs1 Γ xo S1 from by rw [e1]; rfl]
  unfold rvs1 at hb1 ⊢
  obtain ⟨n, l, l', vs, rfl, hn, hf, rfl, hH, hv, em⟩ := mut_ok s1 r1 hb1
  rw [em]
  cases hf
  refine ⟨.inl ⟨rfl, vs, .of hH⟩, _, vs, rfl, rfl, hH, ?_⟩
  obtain ⟨q1, q2, q3⟩ := set_cell (rel.gr g1) s1 g01 hn (hv.rev)
  exact ⟨Γ, _, F1, μ1, rfl, q1, q2, q3⟩
theorem RpWs.takeN {k : Kx} {F : Hp} {μ : Nat → Addr} {N : Nat} : ∀ {l : List W} {vs : List V} (n : Nat), RpWs k F μ N l vs → RpWs k F μ N (l.take n) (vs.take n)
  | l, vs, 0, h => by simp only [List.take_zero]; exact RpWs.nil'
  | [], vs, n + 1, h => by
    have : vs = [] := by have := h.len; simpa using this
    subst this
    exact RpWs.nil'
  | d :: l, vs, n + 1, h => by
    obtain ⟨v, r, rfl, h1, h2⟩ := h
    exact ⟨v, _, rfl, h1, RpWs.takeN n h2⟩
theorem RpWs.dropN {k : Kx} {F : Hp} {μ : Nat → Addr} {N : Nat} : ∀ {l : List W} {vs : List V} (n : Nat), RpWs k F μ N l vs → RpWs k F μ N (l.drop n) (vs.drop n)
  | l, vs, 0, h => h
  | [], vs, n + 1, h => by
    have : vs = [] := by have := h.len; simpa using this
    subst this
    exact RpWs.nil'
  | d :: l, vs, n + 1, h => by
    obtain ⟨v, r, rfl, h1, h2⟩ := h
    exact RpWs.dropN n h2
theorem snd_ins (C : Cok X M T Z lv) {o ix c : CE} {x y z : Expr} {ap q r : Pos} (h1 : okE M X.env.scope o x = true) (hu : noSuper x = true) (h2 : okE M X.env.scope ix y = true) (hs : noStar y = true) (h3 : okE M X.env.scope c z = true) (hs3 : noStar z = true) (hl : (ap.endLine == q.line) = true) :
    SndS X (kx X Z) b Γ S (.Expr (.Call (.Attribute x "insert" ap) [y, z] [] q) r) (liftE Γ (ev T o Γ S) (ins1 Γ (ev T ix Γ) (ev T c Γ))) := by
  intro hb F0 H0 μ0 S0 _ σ F H μ rel st g er
  have se2 : starEach [z] X.env = (false, eval z X.env) :: starEach [] X.env := starEach_cons hs3
  have se : starEach [y, z] X.env = (false, eval y X.env) :: starEach [z] X.env := starEach_cons hs
  refine .of (ps_expr (pe_bm PySem.F.plainAttrs_list PySem.F.slot_list_insert PySem.F.type_list_insert mt_insert WE.pe (pa_cons WE.pe (pa_cons WE.pe pa_nil se2) se) (attr_base hu) (by rw [se, se2]; rfl) hl se (by rw [se2]; rfl))) ?_
  refine (sE o C h1).ths hb rel st g er fun xo S1 e1 F1 H1 μ1 u g1 g01 s1 r1 hb1 er1 => ?_
  obtain ⟨l0, hl0, hb2⟩ := optS_ne (show optS (listOf S1 xo) _ ≠ .bad from hb1)
  have ea : ins1 Γ (ev T ix Γ) (ev T c Γ) xo S1 = liftE Γ (ev T ix Γ S1) (ins2 Γ (ev T c Γ) xo) := by unfold ins1; rw [hl0]; rfl
  rw [ea] at er1
  obtain ⟨pa, us, rfl, hs1, _⟩ := list_at s1 r1 hl0
  refine ⟨.inl ⟨rfl, us, .of hs1⟩, ?_⟩
  refine (sE ix C h2).ths hb2 (rel.gr g1) s1 g01 er1 fun yi S2 e2 F2 H2 μ2 ui g2 g02 s2 r2 hb3 er2 => ?_
  refine (sE c C h3).ths (f := ins3 Γ xo yi) hb3 ((rel.gr g1).gr g2) s2 g02 er2 fun w S3 e3 F3 H3 μ3 v g3 g03 s3 r3 hb4 er3 => ?_
  rw [show liftE Γ (ev T o Γ S) (ins1 Γ (ev T ix Γ) (ev T c Γ)) = ins3 Γ xo yi w S3 from by rw [e1]; show ins1 Γ (ev T ix Γ) (ev T c Γ) xo S1 = _; rw [ea, e2]; show liftE Γ (ev T c Γ S2) (ins3 Γ xo yi) = _; rw [e3]; rfl]
  unfold ins3 at hb4 ⊢
  obtain ⟨kk, hk, hb4⟩ := optS_ne hb4
  simp only [hk, optS_some]
  have hi := int_at r2 hk
  obtain ⟨n, l, l', vs, rfl, hn, hf, he, hH, hv, em⟩ := mut_ok s3 ((r1.gr g2).gr g3) hb4
  cases he
  rw [em]
  unfold insF at hf
  split at hf
  · rename_i hz
    cases hf
    have hsz : sizeLine = 16777216 := sizeLine_eq
    refine ⟨_, vs, kk, v, rfl, by rw [hi], hH, by rw [hv.len]; exact hz.2.2, hz.1, by omega, ?_⟩
    obtain ⟨q1, q2, q3⟩ := set_cell (((rel.gr g1).gr g2).gr g3) s3 g03 hn (((hv.takeN kk.toNat).app (.one r3)).app (hv.dropN kk.toNat))
    have e9 : l.take kk.toNat ++ [w] ++ l.drop kk.toNat = l.take kk.toNat ++ w :: l.drop kk.toNat := by simp
    rw [e9] at q1 q2 q3
    exact ⟨Γ, _, F3, μ3, rfl, q1, q2, q3⟩
  · cases hf
/-- a list's item is taken out -/
theorem pop_ok {i : Option Nat} {x : W} {o : Option Int} {v : V} {k : Kx} {F H : Hp} {μ : Nat → Addr} (st : StoOk k F H μ S) (hx : RpW k F μ S.length x v) (hb : pop2 Γ i x o S ≠ .bad) : ∃ n l j w vs y, x = .r n ∧ S[n]? = some (.lst l) ∧ popI l.length o = some j ∧ l[j]? = some w ∧ v = .ref (μ n) ∧ H (μ n) = some (.lst vs) ∧ RpWs k F μ S.length l vs ∧ vs[j]? = some y ∧ RpW k F μ S.length w y ∧ pop2 Γ i x o S = .nx (putE i w Γ) (S.set n (.lst (l.eraseIdx j))) := by
  unfold pop2 at hb
  cases x with
  | v d => exact absurd rfl hb
  | r n =>
    dsimp only at hb
    cases hn : S[n]? with
    | none => rw [hn] at hb; exact absurd rfl hb
    | some c =>
      rw [hn] at hb
      cases c with
      | lst l =>
        obtain ⟨j, hj, hb⟩ := optS_ne hb
        obtain ⟨w, hw, _⟩ := optS_ne hb
        have hm : mutL Γ S (.r n) (fun _ => some []) ≠ .bad := by
          unfold mutL
          simp only [hn, optS_some]
          exact SOut.noConfusion
        obtain ⟨n', l', _, vs, e, hn', _, hv, hH, hr, _⟩ := mut_ok st hx hm
        cases e
        rw [hn] at hn'
        cases hn'
        obtain ⟨y, hy, ry⟩ := hr.get hw
        refine ⟨n, l, j, w, vs, y, rfl, hn, hj, hw, hv, hH, hr, hy, ry, ?_⟩
        unfold pop2
        dsimp only
        rw [hn]
        dsimp only
        rw [hj, optS_some, hw, optS_some]
      | _ => exact absurd rfl hb
theorem popI_last {n j : Nat} (h : popI n none = some j) : j = n - 1 ∧ 0 < n := by
  unfold popI ixN at h
  dsimp only at h
  rw [if_neg (by decide)] at h
  split at h
  · have := Option.some.inj h
    omega
  · cases h
theorem popI_at {n j : Nat} {kk : Int} (h : popI n (some kk) = some j) : seqIndex? kk n = some j ∧ -(2 ^ 63) ≤ kk ∧ kk < 2 ^ 63 := by
  unfold popI at h
  dsimp only at h
  split at h
  · rename_i hc
    exact ⟨(ixN_seq h).1, hc.1, hc.2⟩
  · cases h
def putσ (i : Option Nat) (y : V) (σ : St) : St := match i with
  | some i => σ.set i (some y)
  | none => σ
theorem pop_post (C : Cok X M T Z lv) {F0 H0 F H : Hp} {μ0 μ : Nat → Addr} {S0 : Sto} {σ : St} {i : Option Nat} {n : Nat} {l : List W} {j : Nat} {w : W} {vs : List V} {y : V} (rel : RelG (kx X Z) F μ S.length Γ σ) (st : StoOk (kx X Z) F H μ S) (g : Gr F0 H0 μ0 S0 F H μ S) (hn : S[n]? = some (.lst l)) (hv : RpWs (kx X Z) F μ S.length l vs) (ry : RpW (kx X Z) F μ S.length w y) :
    ∃ S' F' μ', RelG (kx X Z) F' μ' S'.length (putE i w Γ) (putσ i y σ) ∧ StoOk (kx X Z) F' (upd H (μ n) (.lst (vs.eraseIdx j))) μ' S' ∧ Gr F0 H0 μ0 S0 F' (upd H (μ n) (.lst (vs.eraseIdx j))) μ' S' ∧ S' = S.set n (.lst (l.eraseIdx j)) := by
  obtain ⟨q1, q2, q3⟩ := set_cell rel st g hn (hv.erase j)
  refine ⟨_, F, μ, ?_, q2, q3, rfl⟩
  cases i with
  | none => exact q1
  | some i => exact q1.set (by rw [List.length_set]; exact ry)
theorem snd_del0 (C : Cok X M T Z lv) {o : CE} {x : Expr} {ap q r : Pos} (h1 : okE M X.env.scope o x = true) (hu : noSuper x = true) (hl : (ap.endLine == q.line) = true) :
    SndS X (kx X Z) b Γ S (.Expr (.Call (.Attribute x "pop" ap) [] [] q) r) (liftE Γ (ev T o Γ S) (pop1 Γ none (evo T .no Γ))) := by
  intro hb F0 H0 μ0 S0 _ σ F H μ rel st g er
  refine .of (ps_expr (pe_bm0 PySem.F.plainAttrs_list PySem.F.slot_list_pop PySem.F.type_list_pop (show MtR X "list.pop" rPop from mt_pop) WE.pe (attr_base hu) hl)) ?_
  refine (sE o C h1).ths hb rel st g er fun xo S1 e1 F1 H1 μ1 u g1 g01 s1 r1 hb1 er1 => ?_
  have ee : evo T .no Γ S1 = .ok none S1 := by unfold evo; rfl
  obtain ⟨l0, hl0, hb2⟩ := optS_ne (show optS (listOf S1 xo) _ ≠ .bad from hb1)
  have ea : pop1 Γ none (evo T .no Γ) xo S1 = pop2 Γ none xo none S1 := by unfold pop1; rw [hl0, optS_some, ee]; rfl
  rw [show liftE Γ (ev T o Γ S) (pop1 Γ none (evo T .no Γ)) = pop2 Γ none xo none S1 from by rw [e1]; exact ea]
  rw [ea] at hb1
  obtain ⟨n, l, j, w, vs, y, rfl, hn, hj, hw, rfl, hH, hv, hy, ry, em⟩ := pop_ok s1 r1 hb1
  rw [em]
  obtain ⟨ej, h0⟩ := popI_last hj
  refine ⟨.inl ⟨rfl, vs, .of hH⟩, _, vs, y, rfl, rfl, hH, by rw [hv.len, ← ej]; exact hy, ?_⟩
  obtain ⟨S', F', μ', q1, q2, q3, rfl⟩ := pop_post C (i := none) (rel.gr g1) s1 g01 hn hv ry (j := j)
  rw [← List.eraseIdx_eq_dropLast (i := j) (l := vs) (by rw [hv.len]; omega)]
  exact ⟨Γ, _, F', μ', rfl, q1, q2, q3⟩
theorem snd_del1 (C : Cok X M T Z lv) {o ix : CE} {x y' : Expr} {ap q r : Pos} (h1 : okE M X.env.scope o x = true) (hu : noSuper x = true) (h2 : okE M X.env.scope ix y' = true) (hs : noStar y' = true) (hl : (ap.endLine == q.line) = true) :
    SndS X (kx X Z) b Γ S (.Expr (.Call (.Attribute x "pop" ap) [y'] [] q) r) (liftE Γ (ev T o Γ S) (pop1 Γ none (evo T (.so ix) Γ))) := by
  intro hb F0 H0 μ0 S0 _ σ F H μ rel st g er
  have se : starEach [y'] X.env = (false, eval y' X.env) :: starEach [] X.env := starEach_cons hs
  refine .of (ps_expr (pe_bm PySem.F.plainAttrs_list PySem.F.slot_list_pop PySem.F.type_list_pop (show MtR X "list.pop" rPopAt from mt_popAt) WE.pe (pa_cons WE.pe pa_nil se) (attr_base hu) (by rw [se]; rfl) hl se rfl)) ?_
  refine (sE o C h1).ths hb rel st g er fun xo S1 e1 F1 H1 μ1 u g1 g01 s1 r1 hb1 er1 => ?_
  obtain ⟨l0, hl0, hb2⟩ := optS_ne (show optS (listOf S1 xo) _ ≠ .bad from hb1)
  have ee : evo T (.so ix) Γ S1 = (ev T ix Γ S1).bind poK := by unfold evo; rfl
  have ew : ∀ o : Out W, liftE Γ (o.bind poK) (pop2 Γ none xo) = liftE Γ o (fun w S' => liftE Γ (poK w S') (pop2 Γ none xo)) := fun o => by cases o <;> rfl
  have ea : pop1 Γ none (evo T (.so ix) Γ) xo S1 = liftE Γ (ev T ix Γ S1) (fun w S' => liftE Γ (poK w S') (pop2 Γ none xo)) := by unfold pop1; rw [hl0, optS_some, ee, ew]
  rw [ea] at er1
  rw [ee, ew] at hb2
  obtain ⟨pa, us, rfl, hs1, _⟩ := list_at s1 r1 hl0
  refine ⟨.inl ⟨rfl, us, .of hs1⟩, ?_⟩
  refine (sE ix C h2).ths (f := fun w S' => liftE Γ (poK w S') (pop2 Γ none xo)) hb2 (rel.gr g1) s1 g01 er1 fun yi S2 e2 F2 H2 μ2 ui g2 g02 s2 r2 hb3 er2 => ?_
  obtain ⟨kk, rfl⟩ : ∃ kk, yi = .v (.int kk) := by
    cases yi with
    | r n => exact absurd rfl hb3
    | v d => cases d <;> first | exact ⟨_, rfl⟩ | exact absurd rfl hb3
  have hb3 : pop2 Γ none xo (some kk) S2 ≠ .bad := hb3
  rw [show liftE Γ (ev T o Γ S) (pop1 Γ none (evo T (.so ix) Γ)) = pop2 Γ none xo (some kk) S2 from by rw [e1]; show pop1 Γ none (evo T (.so ix) Γ) xo S1 = _; rw [ea, e2]; rfl]
  obtain ⟨n, l, j, w, vs, y, rfl, hn, hj, hw, he, hH, hv, hy, ry, em⟩ := pop_ok s2 (r1.gr g2) hb3
  cases he
  rw [em]
  obtain ⟨k1, k2, k3⟩ := popI_at hj
  have hi := int_at r2 (show intW (.v (.int kk)) = some kk from rfl)
  refine ⟨_, vs, kk, j, y, rfl, by rw [hi], hH, k2, k3, by rw [hv.len]; exact k1, hy, ?_⟩
  obtain ⟨S', F', μ', q1, q2, q3, rfl⟩ := pop_post C (i := none) ((rel.gr g1).gr g2) s2 g02 hn hv ry (j := j)
  exact ⟨Γ, _, F', μ', rfl, q1, q2, q3⟩
theorem snd_setp0 (C : Cok X M T Z lv) (hfn : ∀ x, X.fn x = true) {i : Nat} {o : CE} {v : Str} {x : Expr} {p ap q r : Pos} (hi : M.N[i]? = some v) (hlc : locB X.env.scope v = true) (h1 : okE M X.env.scope o x = true) (hu : noSuper x = true) (hl : (ap.endLine == q.line) = true) :
    SndS X (kx X Z) b Γ S (.Assign [.Name v p] (.Call (.Attribute x "pop" ap) [] [] q) r) (liftE Γ (ev T o Γ S) (pop1 Γ (some i) (evo T .no Γ))) := by
  intro hb F0 H0 μ0 S0 _ σ F H μ rel st g er
  refine .of (ps_set C.nd (by rw [C.hN]; exact hi) (locB_loc hlc) (pe_bm0 PySem.F.plainAttrs_list PySem.F.slot_list_pop PySem.F.type_list_pop (show MtR X "list.pop" rPop from mt_pop) WE.pe (attr_base hu) hl) (sw_false C.kind rfl) (hfn_of hfn v)) ?_
  refine (sE o C h1).ths hb rel st g er fun xo S1 e1 F1 H1 μ1 u g1 g01 s1 r1 hb1 er1 => ?_
  have ee : evo T .no Γ S1 = .ok none S1 := by unfold evo; rfl
  obtain ⟨l0, hl0, hb2⟩ := optS_ne (show optS (listOf S1 xo) _ ≠ .bad from hb1)
  have ea : pop1 Γ (some i) (evo T .no Γ) xo S1 = pop2 Γ (some i) xo none S1 := by unfold pop1; rw [hl0, optS_some, ee]; rfl
  rw [show liftE Γ (ev T o Γ S) (pop1 Γ (some i) (evo T .no Γ)) = pop2 Γ (some i) xo none S1 from by rw [e1]; exact ea]
  rw [ea] at hb1
  obtain ⟨n, l, j, w, vs, y, rfl, hn, hj, hw, rfl, hH, hv, hy, ry, em⟩ := pop_ok s1 r1 hb1
  rw [em]
  obtain ⟨ej, h0⟩ := popI_last hj
  refine ⟨.inl ⟨rfl, vs, .of hH⟩, _, vs, y, rfl, rfl, hH, by rw [hv.len, ← ej]; exact hy, ?_⟩
  obtain ⟨S', F', μ', q1, q2, q3, rfl⟩ := pop_post C (i := some i) (rel.gr g1) s1 g01 hn hv ry (j := j)
  rw [← List.eraseIdx_eq_dropLast (i := j) (l := vs) (by rw [hv.len]; omega)]
  exact ⟨_, _, F', μ', rfl, q1, q2, q3⟩
theorem snd_setp1 (C : Cok X M T Z lv) (hfn : ∀ x, X.fn x = true) {i : Nat} {o ix : CE} {v : Str} {x y' : Expr} {p ap q r : Pos} (hi : M.N[i]? = some v) (hlc : locB X.env.scope v = true) (h1 : okE M X.env.scope o x = true) (hu : noSuper x = true) (h2 : okE M X.env.scope ix y' = true) (hs : noStar y' = true) (hl : (ap.endLine == q.line) = true) :
    SndS X (kx X Z) b Γ S (.Assign [.Name v p] (.Call (.Attribute x "pop" ap) [y'] [] q) r) (liftE Γ (ev T o Γ S) (pop1 Γ (some i) (evo T (.so ix) Γ))) := by
  intro hb F0 H0 μ0 S0 _ σ F H μ rel st g er
  have se : starEach [y'] X.env = (false, eval y' X.env) :: starEach [] X.env := starEach_cons hs
  refine .of (ps_set C.nd (by rw [C.hN]; exact hi) (locB_loc hlc) (pe_bm PySem.F.plainAttrs_list PySem.F.slot_list_pop PySem.F.type_list_pop (show MtR X "list.pop" rPopAt from mt_popAt) WE.pe (pa_cons WE.pe pa_nil se) (attr_base hu) (by rw [se]; rfl) hl se rfl) (sw_false C.kind rfl) (hfn_of hfn v)) ?_
  refine (sE o C h1).ths hb rel st g er fun xo S1 e1 F1 H1 μ1 u g1 g01 s1 r1 hb1 er1 => ?_
  obtain ⟨l0, hl0, hb2⟩ := optS_ne (show optS (listOf S1 xo) _ ≠ .bad from hb1)
  have ee : evo T (.so ix) Γ S1 = (ev T ix Γ S1).bind poK := by unfold evo; rfl
  have ew : ∀ o : Out W, liftE Γ (o.bind poK) (pop2 Γ (some i) xo) = liftE Γ o (fun w S' => liftE Γ (poK w S') (pop2 Γ (some i) xo)) := fun o => by cases o <;> rfl
  have ea : pop1 Γ (some i) (evo T (.so ix) Γ) xo S1 = liftE Γ (ev T ix Γ S1) (fun w S' => liftE Γ (poK w S') (pop2 Γ (some i) xo)) := by unfold pop1; rw [hl0, optS_some, ee, ew]
  rw [ea] at er1
  rw [ee, ew] at hb2
  obtain ⟨pa, us, rfl, hs1, _⟩ := list_at s1 r1 hl0
  refine ⟨.inl ⟨rfl, us, .of hs1⟩, ?_⟩
  refine (sE ix C h2).ths (f := fun w S' => liftE Γ (poK w S') (pop2 Γ (some i) xo)) hb2 (rel.gr g1) s1 g01 er1 fun yi S2 e2 F2 H2 μ2 ui g2 g02 s2 r2 hb3 er2 => ?_
  obtain ⟨kk, rfl⟩ : ∃ kk, yi = .v (.int kk) := by
    cases yi with
    | r n => exact absurd rfl hb3
    | v d => cases d <;> first | exact ⟨_, rfl⟩ | exact absurd rfl hb3
  have hb3 : pop2 Γ (some i) xo (some kk) S2 ≠ .bad := hb3
  rw [show liftE Γ (ev T o Γ S) (pop1 Γ (some i) (evo T (.so ix) Γ)) = pop2 Γ (some i) xo (some kk) S2 from by rw [e1]; show pop1 Γ (some i) (evo T (.so ix) Γ) xo S1 = _; rw [ea, e2]; rfl]
  obtain ⟨n, l, j, w, vs, y, rfl, hn, hj, hw, he, hH, hv, hy, ry, em⟩ := pop_ok s2 (r1.gr g2) hb3
  cases he
  rw [em]
  obtain ⟨k1, k2, k3⟩ := popI_at hj
  have hii := int_at r2 (show intW (.v (.int kk)) = some kk from rfl)
  refine ⟨_, vs, kk, j, y, rfl, by rw [hii], hH, k2, k3, by rw [hv.len]; exact k1, hy, ?_⟩
  obtain ⟨S', F', μ', q1, q2, q3, rfl⟩ := pop_post C (i := some i) ((rel.gr g1).gr g2) s2 g02 hn hv ry (j := j)
  exact ⟨_, _, F', μ', rfl, q1, q2, q3⟩
mutual
theorem sS : ∀ (c : CS) {b : Nat} {Γ : Env'} {S : Sto} {e : Stmt}, Cok X M T Z lv → (∀ x, X.fn x = true) → okS M X.env.scope c e = true → SndS X (kx X Z) b Γ S e (exec T c b Γ S)
  | .set i c, b, Γ, S, e, C, hfn, hok => by
    obtain ⟨x, p, v, q', rfl, q⟩ := ivs_set hok
    obtain ⟨q, q3⟩ := and_iff q
    obtain ⟨q1, q2⟩ := and_iff q
    unfold exec
    exact snd_set C hfn (of_decide_eq_true q1) q2 q3
  | .unp is c, b, Γ, S, e, C, hfn, hok => by
    obtain ⟨es, a, p, v, q', rfl, q⟩ := ivs_unp hok
    obtain ⟨q, q4⟩ := and_iff q
    obtain ⟨q, q3⟩ := and_iff q
    obtain ⟨q1, q2⟩ := and_iff q
    unfold exec
    exact snd_unp C hfn q1 q2 q3 q4
  | .sfld i a c, b, Γ, S, e, C, hfn, hok => by
    obtain ⟨x, p, nm, p', v, q', rfl, q⟩ := ivs_sfld hok
    obtain ⟨q, q6⟩ := and_iff q
    obtain ⟨q, q5⟩ := and_iff q
    obtain ⟨q, q4⟩ := and_iff q
    obtain ⟨q, q3⟩ := and_iff q
    obtain ⟨q1, q2⟩ := and_iff q
    have q4 := of_decide_eq_true q4
    subst q4
    unfold exec
    exact snd_sfld C q1 (of_decide_eq_true q2) q3 q5 q6
  | .sidx o ix c, b, Γ, S, e, C, hfn, hok => by
    obtain ⟨x, y, r, v, q', rfl, q⟩ := ivs_sidx hok
    obtain ⟨q, q4⟩ := and_iff q
    obtain ⟨q, q3⟩ := and_iff q
    obtain ⟨q1, q2⟩ := and_iff q
    unfold exec
    exact snd_sidx C q1 q2 q3 q4
  | .app o c, b, Γ, S, e, C, hfn, hok => by
    obtain ⟨x, ap, y, q', r, rfl, q⟩ := ivs_app hok
    obtain ⟨q, q5⟩ := and_iff q
    obtain ⟨q, q4⟩ := and_iff q
    obtain ⟨q, q3⟩ := and_iff q
    obtain ⟨q1, q2⟩ := and_iff q
    unfold exec
    exact snd_app C q1 q2 q3 q4 q5
  | .ins o ix c, b, Γ, S, e, C, hfn, hok => by
    obtain ⟨x, ap, y, z, q', r, rfl, q⟩ := ivs_ins hok
    obtain ⟨q, q7⟩ := and_iff q
    obtain ⟨q, q6⟩ := and_iff q
    obtain ⟨q, q5⟩ := and_iff q
    obtain ⟨q, q4⟩ := and_iff q
    obtain ⟨q, q3⟩ := and_iff q
    obtain ⟨q1, q2⟩ := and_iff q
    unfold exec
    exact snd_ins C q1 q2 q3 q4 q5 q6 q7
  | .del o .no, b, Γ, S, e, C, hfn, hok => by
    obtain ⟨x, ap, q', r, rfl, q⟩ := ivs_del0 hok
    obtain ⟨q, q3⟩ := and_iff q
    obtain ⟨q1, q2⟩ := and_iff q
    unfold exec
    exact snd_del0 C q1 q2 q3
  | .del o (.so ix), b, Γ, S, e, C, hfn, hok => by
    obtain ⟨x, ap, y, q', r, rfl, q⟩ := ivs_del1 hok
    obtain ⟨q, q5⟩ := and_iff q
    obtain ⟨q, q4⟩ := and_iff q
    obtain ⟨q, q3⟩ := and_iff q
    obtain ⟨q1, q2⟩ := and_iff q
    unfold exec
    exact snd_del1 C q1 q2 q3 q4 q5
  | .setp i o .no, b, Γ, S, e, C, hfn, hok => by
    obtain ⟨v, p, x, ap, q', r, rfl, q⟩ := ivs_setp0 hok
    obtain ⟨q, q5⟩ := and_iff q
    obtain ⟨q, q4⟩ := and_iff q
    obtain ⟨q, q3⟩ := and_iff q
    obtain ⟨q1, q2⟩ := and_iff q
    unfold exec
    exact snd_setp0 C hfn (of_decide_eq_true q1) q2 q3 q4 q5
  | .setp i o (.so ix), b, Γ, S, e, C, hfn, hok => by
    obtain ⟨v, p, x, ap, y, q', r, rfl, q⟩ := ivs_setp1 hok
    obtain ⟨q, q7⟩ := and_iff q
    obtain ⟨q, q6⟩ := and_iff q
    obtain ⟨q, q5⟩ := and_iff q
    obtain ⟨q, q4⟩ := and_iff q
    obtain ⟨q, q3⟩ := and_iff q
    obtain ⟨q1, q2⟩ := and_iff q
    unfold exec
    exact snd_setp1 C hfn (of_decide_eq_true q1) q2 q3 q4 q5 q6 q7
  | .clr o, b, Γ, S, e, C, hfn, hok => by
    obtain ⟨x, ap, q', r, rfl, q⟩ := ivs_clr hok
    obtain ⟨q, q3⟩ := and_iff q
    obtain ⟨q1, q2⟩ := and_iff q
    unfold exec
    exact snd_clr C q1 q2 q3
  | .rvs o, b, Γ, S, e, C, hfn, hok => by
    obtain ⟨x, ap, q', r, rfl, q⟩ := ivs_rvs hok
    obtain ⟨q, q3⟩ := and_iff q
    obtain ⟨q1, q2⟩ := and_iff q
    unfold exec
    exact snd_rvs C q1 q2 q3
  | .fru is s x, b, Γ, S, e, C, hfn, hok => by
    obtain ⟨ts, kk, p, iter, body, q', rfl, q⟩ := ivs_fru hok
    obtain ⟨q, q4⟩ := and_iff q
    obtain ⟨q, q3⟩ := and_iff q
    obtain ⟨q1, q2⟩ := and_iff q
    unfold exec
    exact snd_fru C hfn q1 q3 (sI s C q2) fun b' Γ' S' => sB x C hfn q4
  | .rai _ _ _, b, Γ, S, e, C, hfn, hok => by exact absurd hok (by cases e <;> exact Bool.noConfusion)
  | .try_ _ _, b, Γ, S, e, C, hfn, hok => by exact absurd hok (by cases e <;> exact Bool.noConfusion)
  | .bot, b, Γ, S, e, C, hfn, hok => by
    unfold exec
    exact fun h => absurd rfl h
  | .ex c, b, Γ, S, e, C, hfn, hok => by
    obtain ⟨v, p, rfl, q⟩ := ivs_ex hok
    obtain ⟨q1, q2⟩ := and_iff q
    unfold exec
    intro hb F0 H0 μ0 S0 _ σ F H μ rel st g er
    refine .of (ps_expr WE.pe (sw_none q2)) ?_
    refine (sE c C q1).ths hb rel st g er fun w S1 e1 F1 H1 μ1 u g1 g01 s1 r1 hb1 er1 => ?_
    exact ⟨Γ, S1, F1, μ1, by rw [e1]; rfl, rel.gr g1, s1, g01⟩
  | .ret c, b, Γ, S, e, C, hfn, hok => by
    obtain ⟨v, p, rfl, q⟩ := ivs_ret hok
    unfold exec
    intro hb F0 H0 μ0 S0 _ σ F H μ rel st g er
    refine .of (ps_ret WE.pe) ?_
    refine (sE c C q).ths hb rel st g er fun w S1 e1 F1 H1 μ1 u g1 g01 s1 r1 hb1 er1 => ?_
    exact ⟨w, S1, F1, μ1, by rw [e1]; rfl, g01, s1, r1⟩
  | .ret0, b, Γ, S, e, C, hfn, hok => by
    obtain ⟨p, rfl⟩ := ivs_ret0 hok
    unfold exec
    intro hb F0 H0 μ0 S0 _ σ F H μ rel st g er
    exact .of ps_retN ⟨.v .non, S, F, μ, rfl, g, st, by simp only [RpW, Rp]⟩
  | .ite t x y, b, Γ, S, e, C, hfn, hok => by
    obtain ⟨c, xs, ys, p, rfl, q⟩ := ivs_ite hok
    obtain ⟨q, q3⟩ := and_iff q
    obtain ⟨q1, q2⟩ := and_iff q
    unfold exec
    intro hb F0 H0 μ0 S0 eb σ F H μ rel st g er
    refine .of (ps_if WT.pt WB.pss WB.pss) ?_
    refine (sT t C q1).ths hb rel st g er fun z S1 e1 F1 H1 μ1 g1 g01 s1 hb1 er1 => ?_
    rw [show liftE Γ (evt T t Γ S) (iteK (execs T x b Γ) (execs T y b Γ)) = iteK (execs T x b Γ) (execs T y b Γ) z S1 from by rw [e1]; rfl]
    cases z with
    | true => rw [if_pos rfl]; exact sB x C hfn q2 hb1 F0 H0 μ0 S0 eb σ F1 H1 μ1 (rel.gr g1) s1 g01 er1
    | false => rw [if_neg (by decide)]; exact sB y C hfn q3 hb1 F0 H0 μ0 S0 eb σ F1 H1 μ1 (rel.gr g1) s1 g01 er1
  | .fr i s x, b, Γ, S, e, C, hfn, hok => by
    obtain ⟨y, p, iter, body, q', rfl, q⟩ := ivs_fr hok
    obtain ⟨q, q5⟩ := and_iff q
    obtain ⟨q, q4⟩ := and_iff q
    obtain ⟨q, q3⟩ := and_iff q
    obtain ⟨q1, q2⟩ := and_iff q
    unfold exec
    exact snd_for C hfn (of_decide_eq_true q1) q2 q4 (sI s C q3) fun b' Γ' S' => sB x C hfn q5
  | .brk, b, Γ, S, e, C, hfn, hok => by
    obtain ⟨p, rfl⟩ := ivs_brk hok
    unfold exec
    exact fun _ F0 H0 μ0 S0 _ σ F H μ rel st g _ => .of ps_break ⟨Γ, S, F, μ, rfl, rel, st, g⟩
  | .cnt, b, Γ, S, e, C, hfn, hok => by
    obtain ⟨p, rfl⟩ := ivs_cnt hok
    unfold exec
    exact fun _ F0 H0 μ0 S0 _ σ F H μ rel st g _ => .of ps_continue ⟨Γ, S, F, μ, rfl, rel, st, g⟩
  | .pas, b, Γ, S, e, C, hfn, hok => by
    obtain ⟨p, rfl⟩ := ivs_pas hok
    unfold exec
    exact fun _ F0 H0 μ0 S0 _ σ F H μ rel st g _ => .of ps_pass ⟨Γ, S, F, μ, rfl, rel, st, g⟩
theorem sB : ∀ (c : CB) {b : Nat} {Γ : Env'} {S : Sto} {sts : List Stmt}, Cok X M T Z lv → (∀ x, X.fn x = true) → okBk M X.env.scope c sts = true → SndBk X (kx X Z) b Γ S sts (execs T c b Γ S)
  | .nil, b, Γ, S, sts, C, hfn, hok => by
    cases sts with
    | nil =>
      unfold execs
      exact fun _ F0 H0 μ0 S0 _ σ F H μ rel st g _ => .of pss_nil ⟨Γ, S, F, μ, rfl, rel, st, g⟩
    | cons _ _ => exact Bool.noConfusion hok
  | .cons s x, b, Γ, S, sts, C, hfn, hok => by
    cases sts with
    | nil => exact Bool.noConfusion hok
    | cons y r =>
      have q : (okS M X.env.scope s y && okBk M X.env.scope x r) = true := hok
      obtain ⟨q1, q2⟩ := and_iff q
      unfold execs
      intro hb F0 H0 μ0 S0 eb σ F H μ rel st g er
      have ih := sS s (b := b) (Γ := Γ) (S := S) C hfn q1
      refine .of (pss_cons WS.ps WB.pss) ?_
      generalize exec T s b Γ S = o at hb er ih ⊢
      have hbo : o ≠ .bad := fun z => hb (by rw [z]; rfl)
      have ero : ErrS X (kx X Z) F0 H0 μ0 S0 o := fun e Γ' S' z => er e Γ' S' (by rw [z]; rfl)
      refine (ih hbo F0 H0 μ0 S0 eb σ F H μ rel st g ero).mono ?_ ?_ ?_ ?_
      · rintro σ' H' ⟨Γ', S', F', μ', rfl, a1, a2, a3⟩
        exact sB x C hfn q2 hb F0 H0 μ0 S0 eb σ' F' H' μ' a1 a2 a3 er
      · rintro v H' ⟨w, S', F', μ', rfl, a⟩
        exact ⟨w, S', F', μ', rfl, a⟩
      · rintro σ' H' ⟨Γ', S', F', μ', rfl, a⟩
        exact ⟨Γ', S', F', μ', rfl, a⟩
      · rintro σ' H' ⟨Γ', S', F', μ', rfl, a⟩
        exact ⟨Γ', S', F', μ', rfl, a⟩
  | .frz i x, b, Γ, S, sts, C, hfn, hok => by
    have hok : okBk M X.env.scope x sts = true := by cases sts <;> exact hok
    unfold execs
    intro hb F0 H0 μ0 S0 eb σ F H μ rel st g er
    unfold frzS at hb er ⊢
    split at hb
    · rename_i n hΓ
      simp only [hΓ] at er ⊢
      obtain ⟨hbn, hb⟩ := needS_ne hb
      obtain ⟨c, hc, hb⟩ := optS_ne hb
      obtain ⟨d, hd, hb⟩ := optS_ne hb
      obtain ⟨ha, hb⟩ := needS_ne hb
      rw [needS_pos hbn] at er ⊢
      simp only [hc, hd, optS_some] at er ⊢
      rw [needS_pos ha] at er ⊢
      obtain ⟨F', a1, a2, a3⟩ := frz_st rel st g (by rw [← eb]; exact hbn) hc hd ha
      exact sB x C hfn hok hb F0 H0 μ0 S0 eb σ F' H μ a1 a2 a3 er
    · rename_i d hΓ
      simp only [hΓ] at er ⊢
      exact sB x C hfn hok hb F0 H0 μ0 S0 eb σ F H μ rel st g er
    · exact absurd rfl hb
end
end
end NV

namespace NV
open PySem L2

/-! ### the program: defs in the order of their calls -/
structure Fn where
  at_ : PySem.W.Frag → Addr
  name : Str
  qual : Str
  N : List Str
  ps : List Str
  params : Arguments
  body : List Stmt
  scope : Scope
  dfl : List He.Dv
  b : CB
def Fn.of (s : Stmt) (at_ : PySem.W.Frag → Addr) (name qual : Str) (N ps : List Str) (b : CB) : Fn := ⟨at_, name, qual, N, ps, defArgs s, defBody s, defScope s, [], b⟩
structure Pg where
  fns : List Fn
  cs : Nat → Option Str
  cd : Nat → Option D
  fs : Nat → Option Str
  cl : Nat → Option Str
  ini : Nat → Option Nat
  df : Nat → Nat → List Df
  ci : Nat → CInfo
noncomputable def step (p : Pg) (n : Nat) (t : Nat → Sto → List W → Out W) : Sto → List W → Out W := match p.fns[n]? with
  | some f => fun S ws => need (ws.length = f.ps.length) (runD ⟨t, p.cd, p.ci⟩ f.N.length f.b S ws)
  | none => fun _ _ => .bad
noncomputable def tab (p : Pg) : Nat → Nat → Sto → List W → Out W
  | 0 => fun _ _ _ => .bad
  | n + 1 => fun j => if j = n then step p n (tab p n) else tab p n j
theorem tab_lt {p : Pg} {j : Nat} : ∀ {n : Nat}, j < n → tab p n j = step p j (tab p j)
  | 0, h => absurd h (Nat.not_lt_zero _)
  | n + 1, h => by
    show (if j = n then step p n (tab p n) else tab p n j) = _
    by_cases e : j = n
    · subst e; rw [if_pos rfl]
    · rw [if_neg e]; exact tab_lt (by omega)
theorem tab_ge {p : Pg} {j : Nat} : ∀ {n : Nat}, n ≤ j → tab p n j = fun _ _ => .bad
  | 0, h => rfl
  | n + 1, h => by
    show (if j = n then step p n (tab p n) else tab p n j) = _
    rw [if_neg (by omega)]
    exact tab_ge (by omega)
def Pg.nm (p : Pg) (N : List Str) : Nm := ⟨N, p.cs, p.fs, p.cl, p.ini, p.df, fun _ => none, none⟩
/-- what the kernel looks at -/
def Fn.chk (p : Pg) (f : Fn) : Bool :=
  (f.scope.kind == .function) && (f.scope.isCoroutine == false) && (f.scope.isGenerator == false) && decide f.N.Nodup && decide (f.N.take f.ps.length = f.ps) &&
  f.ps.all (fun x => f.scope.names.lookup x == some .local || f.scope.names.lookup x == some .cell) && f.scope.names.all (fun y => !(y.2 == .free)) && okBk (p.nm f.N) f.scope f.b f.body
theorem Fn.chk_ok {p : Pg} {f : Fn} (h : f.chk p = true) : FnScope f.N f.ps f.scope ∧ okBk (p.nm f.N) f.scope f.b f.body = true := by
  unfold Fn.chk at h
  simp only [Bool.and_eq_true, decide_eq_true_eq, beq_iff_eq, List.all_eq_true, Bool.or_eq_true, Bool.not_eq_true', beq_eq_false_iff_ne] at h
  obtain ⟨⟨⟨⟨⟨⟨⟨h1, h2⟩, h3⟩, h4⟩, h5⟩, h6⟩, h7⟩, h8⟩ := h
  exact ⟨⟨h1, h2, h3, h4, h5, h6, h7⟩, h8⟩
/-- a def's place in the module -/
def At (K : PySem.W.Frag) (df : Nat → List Df) (k : Kx) (f : Fn) (fd : FuncData) : Prop :=
  FunD K f.name f.qual f.params f.body f.scope (f.dfl.map (He.Dv.v K)) [] (f.at_ K) fd ∧ Binds K fd f.ps [] ∧ ∀ n, n + (df n).length = f.ps.length → ∃ dvs ds, Vals dvs ds ∧ Binds K fd f.ps ds ∧ ∀ F, Rps k F ((df n).map Df.d) dvs
/-- a class's place in the module -/
structure ClsH (K : PySem.W.Frag) (p : Pg) (ca : Nat → Addr) (c : Nat) : Prop where
  cls : Cls K (ca c)
  nd : (p.ci c).flds.Nodup
  few : (p.ci c).flds.length < 1000
  self : PySem.W.selfFirst K (ca c) = true
  tyo : ∀ (H : Hp) (a dx : Addr) (fs : List (Str × V)), H a = some (.ins (ca c) dx fs) → TyOf K H (.ref a) (.ref (ca c))
  noat : ∀ f ∈ (p.ci c).flds, NoAttr K (ca c) f
  meth : ∀ m f, asc m (p.ci c).mths = some f → m ∉ (p.ci c).flds ∧ ∃ g, p.fns[f]? = some g ∧ Meth K (ca c) m (g.at_ K)
  prop : ∀ m f, asc m (p.ci c).prps = some f → ∃ q g, p.fns[f]? = some g ∧ PropOf K (ca c) m q (g.at_ K)
  con : ∀ a d, asc a (p.ci c).cons = some d → a ∉ (p.ci c).flds ∧ ∃ v u, Con K (ca c) a v u ∧ ∀ F, Rp ⟨K, ca, p.ci⟩ F d v
structure PgH (K : PySem.W.Frag) (mg : Str → Option Value) (p : Pg) (ca : Nat → Addr) : Prop where
  chk : p.fns.all (fun f => f.chk p) = true
  at_ : ∀ (i : Nat) (f : Fn), p.fns[i]? = some f → ∃ fd, At K (p.df i) ⟨K, ca, p.ci⟩ f fd
  glo : ∀ (j : Nat) (x : Str), p.cs j = some x → ∃ d v u, p.cd j = some d ∧ mg x = some u ∧ RelV v u ∧ ∀ F, Rp ⟨K, ca, p.ci⟩ F d v
  fn : ∀ (i : Nat) (x : Str), p.fs i = some x → ∃ f, p.fns[i]? = some f ∧ mg x = some (.ref (f.at_ K))
  cl : ∀ c, p.ci c = default ∨ ClsH K p ca c
  nm : ∀ (c : Nat) (x : Str), p.cl c = some x → mg x = some (.ref (ca c))
  ini : ∀ (c f : Nat) (x : Str), p.ini c = some f → p.cl c = some x → ∃ g, p.fns[f]? = some g ∧ Mk K (ca c) (g.at_ K)
  sub : ∀ (c c' : Nat) (x : Str), p.cl c' = some x → p.ci c ≠ default → PySem.W.kitOne K (.ref (ca c)) (.ref (ca c')) = some ((p.ci c).sups.contains c')
  nos : ∀ (c' : Nat) (x : Str) (t : String), p.cl c' = some x → t ∈ ["NoneType", "bool", "int", "str", "tuple", "list"] → PySem.W.kitOne K (.type t) (.ref (ca c')) = some false
  isb : ∀ (c : Nat) (t : Ty), p.ci c ≠ default → PySem.W.kitOne K (.ref (ca c)) (.type (tyS t)) = some false
  blt : ∀ x ∈ bltNames, mg x = none
theorem rel_start {k : Kx} {F : Hp} {μ : Nat → Addr} {M : Nat} {ws : List W} {vs : List V} {N : List Str} (r : RpWs k F μ M ws vs) : RelG k F μ M (ws.map some ++ List.replicate (N.length - ws.length) none) (L2.start N vs) := by
  unfold L2.start
  have hl := r.len
  refine ⟨by simp [hl], fun i w q => ?_⟩
  by_cases hi : i < ws.length
  · rw [List.getElem?_append_left (by simpa using hi), List.getElem?_map] at q
    obtain ⟨d, hd, e⟩ := Option.map_eq_some_iff.mp q
    cases e
    obtain ⟨v, hv, hr⟩ := r.get hd
    refine ⟨v, ?_, hr⟩
    rw [List.getElem?_append_left (by simp [hl]; exact hi), List.getElem?_map, hv]
    rfl
  · rw [List.getElem?_append_right (by simpa using hi)] at q
    rw [List.length_map, List.getElem?_replicate] at q
    split at q <;> cases q
section
variable {P : Program} {w : World} {K : PySem.W.Frag} {mg : Str → Option Value} {base : Heap}
theorem prog_ok {p : Pg} {ca : Nat → Addr} (h : PgH K mg p ca) : ∀ (i : Nat) (f : Fn), p.fns[i]? = some f → ∀ fd, At K (p.df i) ⟨K, ca, p.ci⟩ f fd → FnOk P w K mg base (L2.CX P w) (2 * i + 2) (f.at_ K) fd f.ps (spF ⟨K, ca, p.ci⟩ f.ps.length (step p i (tab p i))) := by
  intro i
  induction i using Nat.strongRecOn with
  | ind i ih =>
    intro f hf fd ⟨FF, hbn, hdf⟩
    obtain ⟨Sc, hok⟩ := Fn.chk_ok (List.all_eq_true.mp h.chk f (List.mem_of_getElem? hf))
    refine FF.ok (k := 2 * i + 1) Sc (fun vs H Q E h => h.1) fun cdv A outer s H vs Q E hr hsp => ?_
    obtain ⟨hlen, F, μ, S, ws, st, hw, hor⟩ := hsp
    let X := cxOf (L2.CX P w) P w K mg base f.N f.qual f.scope (f.at_ K) cdv A outer s H E
    let T : Tb := ⟨tab p i, p.cd, p.ci⟩
    let Z : Zt := ⟨ca, p.ci⟩
    have fnf : ∀ (j : Nat) (g : Fn), p.fns[j]? = some g → FnF X Z T p.df (2 * i) j (g.at_ K) := fun j g hg => by
      obtain ⟨gd, hA⟩ := h.at_ j g hg
      refine ⟨⟨gd, g.ps, ?_, ?_, hA.2.1, hA.2.2⟩, hA.1.kp⟩
      · show FnOk P w K mg base (L2.CX P w) (2 * i) (g.at_ K) gd g.ps (spF ⟨K, ca, p.ci⟩ g.ps.length (tab p i j))
        by_cases hji : j < i
        · rw [tab_lt hji]
          exact (ih j hji g hg gd hA).mono (by omega)
        · rw [tab_ge (by omega)]
          refine ⟨fun vs H Q E h => h.1, fun A outer s H args us vs Q E _ _ _ _ h => ?_⟩
          obtain ⟨h1, F, μ, S, ws, h2, h3, ⟨w, S', h4, _⟩ | ⟨e, S', h4, _⟩⟩ := h <;> cases h4
      · intro S ws hne
        by_cases hji : j < i
        · have hne : tab p i j S ws ≠ .bad := hne
          rw [tab_lt hji] at hne
          unfold step at hne
          rw [hg] at hne
          exact (need_ne hne).1
        · have hne : tab p i j S ws ≠ .bad := hne
          rw [tab_ge (by omega)] at hne
          exact absurd rfl hne
    have C : Cok X (p.nm f.N) T Z (2 * i) := by
      refine ⟨hr, Sc.nd, rfl, rfl, Sc.kind, passes_of (K := fun e s'' => L2.CX P w outer H s E e s'') rfl, rfl, h.glo, fun j x hj => ?_, fun c => ?_, h.nm, fun c f x h1 h2 => ?_, h.sub, h.nos, h.isb, h.blt⟩
      · obtain ⟨g, h1, h2⟩ := h.fn j x hj
        exact ⟨_, h2, fnf j g h1⟩
      · rcases h.cl c with q | q
        · exact .inl q
        · refine .inr ⟨q.cls, q.nd, q.few, q.self, q.tyo, q.noat, fun m f hm => ?_, fun m f hm => ?_, q.con⟩
          · obtain ⟨h1, g, h2, h3⟩ := q.meth m f hm
            exact ⟨h1, _, h3, fnf f g h2⟩
          · obtain ⟨q', g, h2, h3⟩ := q.prop m f hm
            exact ⟨q', _, h3, fnf f g h2⟩
      · obtain ⟨g, h3, h4⟩ := h.ini c f x h1 h2
        exact ⟨_, h4, fnf f g h3⟩
    have tk : Takes X (fun cls d _ H => E cls d H) := takes_of (X := X) (E := E) rfl rfl rfl rfl
    have es : step p i (tab p i) S ws = need (ws.length = f.ps.length) (runD T f.N.length f.b S ws) := by unfold step; rw [hf]
    have hwl : ws.length = f.ps.length := by rw [← hw.len]; exact hlen
    rw [es, need_pos hwl] at hor
    unfold runD at hor
    refine ⟨_, WB.pss (X := X), ?_⟩
    have rel : RelG (kx X Z) F μ S.length (ws.map some ++ List.replicate (f.N.length - ws.length) none) (L2.start f.N vs) := rel_start hw
    have key := sB f.b (b := S.length) (Γ := ws.map some ++ List.replicate (f.N.length - ws.length) none) (S := S) C (fun _ => rfl) hok
    generalize execs T f.b S.length (ws.map some ++ List.replicate (f.N.length - ws.length) none) S = O at hor key
    have hO : O ≠ .bad := fun z => by
      subst z
      rcases hor with ⟨w, S', h1, _⟩ | ⟨e, S', h1, _⟩ <;> cases h1
    have er : ErrS X (kx X Z) F H μ S O := fun e Γ S' q σ => by
      subst q
      refine Ps.of tk fun cls d H' ⟨F', μ', a, b, c, _⟩ => ?_
      rcases hor with ⟨w, S'', h1, _⟩ | ⟨e', S'', h1, hE⟩
      · cases h1
      · cases h1
        exact hE cls d H' ⟨F', μ', a, b, c⟩
    refine (key hO F H μ S rfl (L2.start f.N vs) F H μ rel st .refl er).mono ?_ ?_ ?_ ?_
    · rintro σ' H' ⟨Γ', S', F', μ', rfl, a1, a2, a3⟩
      rcases hor with ⟨w, S'', h1, hQ⟩ | ⟨e', S'', h1, hE⟩
      · cases h1
        exact hQ _ _ ⟨F', μ', a3, a2, by simp only [RpW, Rp]⟩
      · cases h1
    · rintro v H' ⟨w', S', F', μ', rfl, a1, a2, a3⟩
      rcases hor with ⟨w, S'', h1, hQ⟩ | ⟨e', S'', h1, hE⟩
      · cases h1
        exact hQ _ _ ⟨F', μ', a1, a2, a3⟩
      · cases h1
    · rintro σ' H' ⟨Γ', S', F', μ', rfl, _⟩
      rcases hor with ⟨w, S'', h1, hQ⟩ | ⟨e', S'', h1, hE⟩ <;> cases h1
    · rintro σ' H' ⟨Γ', S', F', μ', rfl, _⟩
      rcases hor with ⟨w, S'', h1, hQ⟩ | ⟨e', S'', h1, hE⟩ <;> cases h1
end
/-- a law's promise from its value -/
theorem law_sp {k : Kx} {φ : Sto → List W → Out W} (h : ∀ ns : List Int, ns.length ≤ 63 → ∃ S', φ [] [.v (.scr ns)] = .ok (.v (.bl true)) S') (H : Hp) (a : Addr) (ns : List Int) (hl : ns.length ≤ 63) (hS : SqL k.K H a (ns.map V.int)) : spF k 1 φ [.ref a] H (fun v _ => v = .bl true) fun _ _ _ => False := by
  obtain ⟨S', e⟩ := h ns hl
  refine ⟨rfl, H, fun _ => 0, [], [.v (.scr ns)], ⟨Same.refl _, fun n c h => by simp at h, fun n m c c' h => by simp at h⟩, RpWs.one ?_, .inl ⟨_, S', e, fun v H' ⟨F', μ', g, s, r⟩ => bl_at r⟩⟩
  show Rp k H (.scr ns) _
  unfold Rp
  exact ⟨a, rfl, hS⟩
theorem no_CX {P : Program} {w : World} (H : Hp) (s : Shared) (e : Value) (s' : Shared) : L2.CX P w [] H s (fun _ _ _ => False) e s' → False := fun ⟨_, _, _, _, _, _, _, _, _, _, _, _, h8⟩ => h8

/-- a class's body -/
def bodyOf : Stmt → List Stmt
  | .ClassDef _ _ _ b _ _ _ _ _ _ _ => b
  | _ => []
/-- a promise that lets nothing out -/
def noE (sp : Sp) : Sp := fun vs H Q _ => sp vs H Q fun _ _ _ => False
theorem FnOk.quiet {P : Program} {w : World} {K : PySem.W.Frag} {mg : Str → Option Value} {base : Heap} {k : Nat} {f : Addr} {fd : FuncData} {ps : List Str} {sp : Sp} (F : FnOk P w K mg base (L2.CX P w) k f fd ps sp) : FnOk P w K mg base L2.CX0 k f fd ps (noE sp) :=
  ⟨fun vs H Q E h => F.len vs H Q _ h, fun A outer s H args us vs Q E hr he hb hv hs => codeAny_mono (F.run A outer s H args us vs Q (fun _ _ _ => False) hr he hb hv hs) fun r s' q => by
    cases r with
    | ok fl => cases fl <;> exact q
    | error e =>
      obtain ⟨_, _, _, _, _, _, _, _, _, _, _, _, h8⟩ := q
      exact h8.elim⟩
/-! ### the head's facts -/
abbrev Fc := PySem.W.Frag → Bool
def fnWA (K : PySem.W.Frag) (a : Addr) : He.FnW := match K.lookup a with
  | some ⟨_, _, .func fd, _⟩ => some (fd.name, fd.qualname, fd.params, fd.body, fd.scope, fd.globals, fd.closure, fd.builtins)
  | _ => none
def Fn.val (d : Fn) : He.FnW := some (d.name, d.qual, d.params, .stmts d.body, d.scope, mainGlobals, [], builtinsNs)
def Fn.okd (K : PySem.W.Frag) (d : Fn) : Bool := PySem.W.keepIn K (.ref (d.at_ K)) && (match K.lookup (d.at_ K) with
  | some ⟨_, _, .func fd, _⟩ => PySem.W.codeIn K fd.code d.qual && He.dflB K fd.defaults (d.dfl.map (He.Dv.v K))
  | _ => false)
theorem Fn.funD {K : PySem.W.Frag} {d : Fn} (e : fnWA K (d.at_ K) = d.val) (c : d.okd K = true) : ∃ fd, FunD K d.name d.qual d.params d.body d.scope (d.dfl.map (He.Dv.v K)) [] (d.at_ K) fd := by
  obtain ⟨kp, c2⟩ := He.ba c
  unfold fnWA at e
  cases q : K.lookup (d.at_ K) with
  | none => rw [q] at c2; cases c2
  | some o =>
    obtain ⟨oc, od, dt, osl⟩ := o
    rw [q] at c2 e
    cases dt with
    | func fd =>
      obtain ⟨n1, n2, n3, n4, n5, n6, n7, n8, n9, n10, n11, n12, n13, n14, n15⟩ := fd
      have e2 : (some (n1, n2, n3, n4, n5, n6, n7, n15) : He.FnW) = some (d.name, d.qual, d.params, .stmts d.body, d.scope, mainGlobals, [], builtinsNs) := e
      simp only [Option.some.injEq, Prod.mk.injEq] at e2
      obtain ⟨h1, h2, h3, h4, h5, h6, h7, h8⟩ := e2
      subst h1 h2 h3 h4 h5 h6 h7 h8
      obtain ⟨k1, k3⟩ := He.ba (show (PySem.W.codeIn K n13 d.qual && He.dflB K n8 (d.dfl.map (He.Dv.v K))) = true from c2)
      exact ⟨_, ⟨oc, od, n8, n9, n10, n11, n12, n13, n14, osl, rfl, q, k1, He.dflB_ok k3, He.kwdB_ok (kws := []) rfl⟩, kp⟩
    | _ => cases c2
abbrev AlV : Type := Bool × List He.FnW
def obsV (fa : List Fc) (fn : List Fn) (K : PySem.W.Frag) : AlV := ((fa.all fun f => f K) && fn.all fun d => d.okd K, fn.map fun d => fnWA K (d.at_ K))
def valV (fn : List Fn) : AlV := (true, fn.map Fn.val)
def SaysV (fa : List Fc) (fn : List Fn) (K : PySem.W.Frag) : Prop := obsV fa fn K = valV fn
def obsVG (n : Nat) (fa : List Fc) (fn : List Fn) (g : Addr → Option Obj) : AlV := obsV fa fn (He.frG g (He.asD g n))
def hookV (n : Nat) (fa : List Fc) (fn : List Fn) : PySem.W.Hook where
  α := AlV
  obs := fun s => obsVG n fa fn s.heap.get?
  val := fun _ => valV fn
  says := fun _ h => ∃ K : PySem.W.Frag, K.In h ∧ SaysV fa fn K
  of := fun _ _ e => ⟨_, He.frG_in, e⟩
  keeps := fun _ _ _ ⟨K, hK, c⟩ k => ⟨K, PySem.W.Frag.In.keeps hK k, c⟩
theorem obsVG_eq {n : Nat} {fa : List Fc} {fn : List Fn} {g : Addr → Option Obj} {s : Shared} (h : ∀ a, g a = s.heap.get? a) : obsVG n fa fn g = (hookV n fa fn).obs s := by
  have e : g = s.heap.get? := funext h
  rw [e] <;> rfl
section
variable {fa : List Fc} {fn : List Fn} {K : PySem.W.Frag}
theorem SaysV.fact (c : SaysV fa fn K) (i : Nat) {f : Fc} (h : fa[i]? = some f := by rfl) : f K = true := by
  have c1 := (He.ba (show ((fa.all fun f => f K) && fn.all fun d => d.okd K) = true from congrArg (fun z : AlV => z.1) c)).1
  exact List.all_eq_true.mp c1 f (List.mem_of_getElem? h)
theorem SaysV.mem (c : SaysV fa fn K) {f : Fc} (h : f ∈ fa) : f K = true := by
  have c1 := (He.ba (show ((fa.all fun f => f K) && fn.all fun d => d.okd K) = true from congrArg (fun z : AlV => z.1) c)).1
  exact List.all_eq_true.mp c1 f h
theorem SaysV.def_ (c : SaysV fa fn K) (i : Nat) {d : Fn} (h : fn[i]? = some d := by rfl) : ∃ fd, FunD K d.name d.qual d.params d.body d.scope (d.dfl.map (He.Dv.v K)) [] (d.at_ K) fd := by
  have c2 := (He.ba (show ((fa.all fun f => f K) && fn.all fun d => d.okd K) = true from congrArg (fun z : AlV => z.1) c)).2
  have e : fn.map (fun d => fnWA K (d.at_ K)) = fn.map Fn.val := congrArg (fun z : AlV => z.2) c
  have e2 : (fn.map fun d => fnWA K (d.at_ K))[i]? = (fn.map Fn.val)[i]? := by rw [e]
  rw [List.getElem?_map, List.getElem?_map, h] at e2
  exact Fn.funD (Option.some.inj e2) (List.all_eq_true.mp c2 d (List.mem_of_getElem? h))
end
end NV

namespace NV
open PySem L2
/-! ### a program's tables, and what the head must say of them -/
inductive Cn where
  | int (i : Int)
  | str (z : Str)
  | tup (l : List Str)
def Cn.d : Cn → D
  | .int i => .int i
  | .str z => .str z
  | .tup l => .tup (l.map D.str)
structure Src where
  fns : List Fn
  nms : List (Option Str)
  cs : List (Str × Cn)
  cis : List CInfo
  ins : List (Option Nat)
  df : Nat → Nat → List Df
def Src.pg (s : Src) : Pg := ⟨s.fns, fun j => (s.cs[j]?).map (·.1), fun j => (s.cs[j]?).map (·.2.d), fun i => (s.nms[i]?).join, fun c => (s.cis[c]?).map (·.name), fun c => (s.ins[c]?).join, s.df, fun c => s.cis.getD c default⟩
def Src.ca (s : Src) (K : PySem.W.Frag) (c : Nat) : Addr := He.ga K (s.cis.getD c default).name
def cnB (K : PySem.W.Frag) (p : Str × Cn) : Bool := match p.2 with
  | .int i => (He.Fa.int p.1 i).ok K
  | .str z => (He.Fa.str p.1 z).ok K
  | .tup l => (He.Fa.glo p.1).ok K && He.tupB K p.1 (l.map He.Dv.str)
def fnB (s : Src) (K : PySem.W.Frag) (i : Nat) : Bool := match (s.nms[i]?).join with
  | some x => (match s.fns[i]? with
    | some f => He.eqO (PySem.W.nsIn K mainGlobals x) (some (some (.ref (f.at_ K))))
    | none => false)
  | none => true
def tyB0 (K : PySem.W.Frag) (C : Addr) : Bool := He.eqO (PySem.W.findIn K (.ref C) "__class__") (some (some (.builtin "object.__class__"))) && (He.eqO (PySem.W.specialIn K (.builtin "object.__class__") "__get__") (some (some (.builtin "getset_descriptor.__get__"))) &&
  (decide (PySem.W.takesIn K (.builtin "object.__class__") = some true) && decide (PySem.W.mroIn K C (.type "object") = some true)))
def mtB (s : Src) (K : PySem.W.Frag) (C : Addr) (flds : List Str) (p : Str × Nat) : Bool := !flds.contains p.1 && (match s.fns[p.2]? with
  | some g => He.eqO (PySem.W.findIn K (.ref C) p.1) (some (some (.ref (g.at_ K)))) && (PySem.W.isFn K (.ref (g.at_ K)) && PySem.W.keepIn K (.ref (g.at_ K)))
  | none => false)
/-- a property's object, its getter -/
def pO (K : PySem.W.Frag) (C : Addr) (m : Str) : Addr := match PySem.W.findIn K (.ref C) m with
  | some (some (.ref p)) => p
  | _ => 0
def pG (K : PySem.W.Frag) (x m : Str) : Addr := match PySem.W.recIn K (pO K (He.ga K x) m) "property" with
  | some (.ref g :: _) => g
  | _ => 0
def prB (s : Src) (K : PySem.W.Frag) (C : Addr) (p : Str × Nat) : Bool := (match s.fns[p.2]? with
  | some g => He.eqO (PySem.W.findIn K (.ref C) p.1) (some (some (.ref (pO K C p.1)))) && (He.eqO (PySem.W.specialIn K (.ref (pO K C p.1)) "__get__") (some (some (.builtin "property.__get__"))) && (decide (PySem.W.takesIn K (.ref (pO K C p.1)) = some true) &&
    (match PySem.W.recIn K (pO K C p.1) "property" with
    | some (.ref a :: _) => decide (a = g.at_ K)
    | _ => false)))
  | none => false)
def dvOf : D → Option He.Dv
  | .int i => some (.int i)
  | .str z => some (.str z)
  | .bl b => some (.bl b)
  | .non => some .non
  | _ => none
def coB (K : PySem.W.Frag) (C : Addr) (flds : List Str) (p : Str × D) : Bool := !flds.contains p.1 && (match dvOf p.2, PySem.W.findIn K (.ref C) p.1 with
  | some dv, some (some u) => He.relB (dv.v K) u && (He.eqO (PySem.W.specialIn K u "__get__") (some none) && (PySem.W.copiedNames.contains p.1 == false))
  | _, _ => false)
def inB (s : Src) (K : PySem.W.Frag) (C : Addr) (c : Nat) : Bool := match (s.ins[c]?).join with
  | some f => (match s.fns[f]? with
    | some g => PySem.W.makesIn K C && (He.eqO (PySem.W.findIn K (.ref C) "__init__") (some (some (.ref (g.at_ K)))) && (PySem.W.isFn K (.ref (g.at_ K)) && PySem.W.keepIn K (.ref C)))
    | none => false)
  | none => true
def bnames : List String := ["NoneType", "bool", "int", "str", "tuple", "list"]
def tyAll : List Ty := [.int, .str, .bool, .list, .tuple]
def kitB (K : PySem.W.Frag) (a b : Value) (r : Bool) : Bool := decide (PySem.W.kitOne K a b = some r)
def clB (s : Src) (K : PySem.W.Frag) (c : Nat) : Bool := match s.cis[c]? with
  | none => true
  | some i => (He.Fa.glo i.name).ok K && ((He.Fa.cls i.name).ok K && (PySem.W.selfFirst K (He.ga K i.name) && (tyB0 K (He.ga K i.name) && (decide i.flds.Nodup && (decide (i.flds.length < 1000) && (i.flds.all (fun f => He.eqO (PySem.W.findIn K (.ref (He.ga K i.name)) f) (some none)) &&
    (i.mths.all (mtB s K (He.ga K i.name) i.flds) && (i.prps.all (prB s K (He.ga K i.name)) && (i.cons.all (coB K (He.ga K i.name) i.flds) && (inB s K (He.ga K i.name) c && ((List.range s.cis.length).all (fun c' => kitB K (.ref (He.ga K i.name)) (.ref (s.ca K c')) (i.sups.contains c')) &&
    (bnames.all (fun t => kitB K (.type t) (.ref (He.ga K i.name)) false) && tyAll.all (fun t => kitB K (.ref (He.ga K i.name)) (.type (tyS t)) false)))))))))))))
def Src.ok (s : Src) : Fc := fun K => s.cs.all (cnB K) && ((List.range s.fns.length).all (fnB s K) && ((List.range s.cis.length).all (clB s K) && bltNames.all (fun x => (He.Fa.free x).ok K)))
theorem asc_mem {α : Type} {x : Str} {a : α} : ∀ {l : List (Str × α)}, asc x l = some a → (x, a) ∈ l
  | [], h => by cases h
  | (y, b) :: l, h => by
    unfold asc at h
    split at h
    · rename_i e
      cases h
      subst e
      exact List.mem_cons_self
    · exact List.mem_cons_of_mem _ (asc_mem h)
theorem Src.pgH {s : Src} {K : PySem.W.Frag} {h : Heap} {mg : Str → Option Value} (X : K.In h) (G : h.Ns mainGlobals mg) (c : s.ok K = true) (hlen : s.nms.length ≤ s.fns.length) (hchk : s.fns.all (fun f => f.chk s.pg) = true)
    (hat : ∀ (i : Nat) (f : Fn), s.fns[i]? = some f → ∃ fd, At K (s.df i) ⟨K, s.ca K, s.pg.ci⟩ f fd) : PgH K mg s.pg (s.ca K) := by
  obtain ⟨c1, c⟩ := He.ba c
  obtain ⟨c2, c⟩ := He.ba c
  obtain ⟨c3, c4⟩ := He.ba c
  have hci : ∀ (n : Nat) (i : CInfo), s.cis[n]? = some i → s.pg.ci n = i ∧ s.ca K n = He.ga K i.name ∧ clB s K n = true := fun n i e => by
    have e1 : s.cis.getD n default = i := by rw [List.getD_eq_getElem?_getD, e]; rfl
    refine ⟨e1, ?_, List.all_eq_true.mp c3 n (List.mem_range.mpr (List.getElem?_eq_some_iff.mp e).1)⟩
    unfold Src.ca
    rw [e1]
  have cl : ∀ (n : Nat) (i : CInfo), s.cis[n]? = some i → _ := fun n i e => by
    have q := (hci n i e).2.2
    unfold clB at q
    rw [e] at q
    exact q
  have hdf : ∀ n, s.pg.ci n ≠ default → ∃ i, s.cis[n]? = some i := fun n hn => by
    cases e : s.cis[n]? with
    | some i => exact ⟨i, rfl⟩
    | none => exact absurd (show s.cis.getD n default = default from by rw [List.getD_eq_getElem?_getD, e]; rfl) hn
  have hcn : ∀ (n : Nat) (x : Str), s.pg.cl n = some x → ∃ i, s.cis[n]? = some i ∧ i.name = x := fun n x e => Option.map_eq_some_iff.mp e
  refine ⟨hchk, hat, fun j x hj => ?_, fun i x hi => ?_, fun n => ?_, fun n x hn => ?_, fun n f x h1 h2 => ?_, fun n n' x h1 h2 => ?_, fun n x t h1 h2 => ?_, fun n t h1 => ?_, fun x hx => ?_⟩
  · obtain ⟨p, e, rfl⟩ := Option.map_eq_some_iff.mp hj
    have q := List.all_eq_true.mp c1 p (List.mem_of_getElem? e)
    obtain ⟨nm, cn⟩ := p
    unfold cnB at q
    have ed : s.pg.cd j = some cn.d := by show (s.cs[j]?).map _ = _; rw [e]; rfl
    cases cn with
    | int i =>
      obtain ⟨t, q⟩ := He.int_ok X G q
      exact ⟨_, .int i, _, ed, q, ⟨t, rfl⟩, fun F => by unfold Cn.d Rp; rfl⟩
    | str z =>
      obtain ⟨t, q⟩ := He.str_ok X G q
      exact ⟨_, .str z, _, ed, q, ⟨t, rfl⟩, fun F => by unfold Cn.d Rp; rfl⟩
    | tup l =>
      obtain ⟨q1, q2⟩ := He.ba q
      refine ⟨_, .ref (He.ga K nm), _, ed, He.glo_ok X G q1, rfl, fun F => ?_⟩
      unfold Cn.d Rp
      refine ⟨_, _, rfl, He.tupB_ok q2 F, ?_⟩
      rw [List.map_map]
      exact rps_strs
  · have hlt : i < s.nms.length := by
      cases e : s.nms[i]? with
      | none =>
        have hi : (s.nms[i]?).join = some x := hi
        rw [e] at hi; cases hi
      | some _ => exact (List.getElem?_eq_some_iff.mp e).1
    have q := List.all_eq_true.mp c2 i (List.mem_range.mpr (by omega))
    unfold fnB at q
    rw [show (s.nms[i]?).join = some x from hi] at q
    dsimp only at q
    split at q
    · rename_i f hf
      exact ⟨f, hf, PySem.W.mg_of X G (He.eqO_ok q)⟩
    · cases q
  · cases e : s.cis[n]? with
    | none => exact .inl (show s.cis.getD n default = default from by rw [List.getD_eq_getElem?_getD, e]; rfl)
    | some i =>
      right
      obtain ⟨e1, e2, _⟩ := hci n i e
      have q := cl n i e
      obtain ⟨q0, q⟩ := He.ba q
      obtain ⟨q1, q⟩ := He.ba q
      obtain ⟨q2, q⟩ := He.ba q
      obtain ⟨q3, q⟩ := He.ba q
      obtain ⟨q4, q⟩ := He.ba q
      obtain ⟨q5, q⟩ := He.ba q
      obtain ⟨q6, q⟩ := He.ba q
      obtain ⟨q7, q⟩ := He.ba q
      obtain ⟨q8, q⟩ := He.ba q
      obtain ⟨q9, q⟩ := He.ba q
      obtain ⟨t1, t⟩ := He.ba q3
      obtain ⟨t2, t⟩ := He.ba t
      obtain ⟨t3, t4⟩ := He.ba t
      have hC : Cls K (He.ga K i.name) := He.cls_ok q1
      refine ⟨by rw [e2]; exact hC, by rw [e1]; exact of_decide_eq_true q4, by rw [e1]; exact of_decide_eq_true q5, by rw [e2]; exact q2, fun H a dx fs hH => ?_, fun f hf => ?_, fun m f hm => ?_, fun m f hm => ?_, fun a d hd => ?_⟩
      · rw [e2] at hH ⊢
        exact .ins hH hC (He.eqO_ok t1) (He.eqO_ok t2) (of_decide_eq_true t3) (of_decide_eq_true t4)
      · rw [e1] at hf
        rw [e2]
        exact He.eqO_ok (List.all_eq_true.mp q6 f hf)
      · rw [e1] at hm ⊢
        rw [e2]
        have z := List.all_eq_true.mp q7 _ (asc_mem hm)
        unfold mtB at z
        obtain ⟨z1, z⟩ := He.ba z
        refine ⟨by simpa using z1, ?_⟩
        split at z
        · rename_i g hg
          obtain ⟨z2, z⟩ := He.ba z
          obtain ⟨z3, z4⟩ := He.ba z
          exact ⟨g, hg, He.eqO_ok z2, z3, z4⟩
        · cases z
      · rw [e1] at hm
        rw [e2]
        have z := List.all_eq_true.mp q8 _ (asc_mem hm)
        unfold prB at z
        split at z
        · rename_i g hg
          obtain ⟨z1, z⟩ := He.ba z
          obtain ⟨z2, z⟩ := He.ba z
          obtain ⟨z3, z⟩ := He.ba z
          refine ⟨_, g, hg, He.eqO_ok z1, He.eqO_ok z2, of_decide_eq_true z3, ?_⟩
          split at z
          · rename_i a rest hr
            have := of_decide_eq_true z
            subst this
            exact ⟨rest, hr⟩
          · cases z
        · cases z
      · rw [e1] at hd ⊢
        rw [e2]
        have z := List.all_eq_true.mp q9 _ (asc_mem hd)
        unfold coB at z
        obtain ⟨z1, z⟩ := He.ba z
        refine ⟨by simpa using z1, ?_⟩
        split at z
        · rename_i dv u hdv hu
          obtain ⟨z2, z⟩ := He.ba z
          obtain ⟨z3, z4⟩ := He.ba z
          refine ⟨dv.v K, u, ⟨hu, He.relB_ok z2, He.eqO_ok z3, by simpa using z4⟩, fun F => ?_⟩
          have hdv : dvOf d = some dv := hdv
          cases d <;> simp only [dvOf, Option.some.injEq] at hdv <;> first | (subst hdv; simp only [Rp, He.Dv.v]) | cases hdv
        · cases z
  · obtain ⟨i, e, rfl⟩ := hcn n x hn
    obtain ⟨_, e2, _⟩ := hci n i e
    rw [e2]
    exact He.glo_ok X G (He.ba (cl n i e)).1
  · obtain ⟨i, e, rfl⟩ := hcn n x h2
    obtain ⟨_, e2, _⟩ := hci n i e
    have q := cl n i e
    obtain ⟨_, q⟩ := He.ba q
    obtain ⟨_, q⟩ := He.ba q
    obtain ⟨_, q⟩ := He.ba q
    obtain ⟨_, q⟩ := He.ba q
    obtain ⟨_, q⟩ := He.ba q
    obtain ⟨_, q⟩ := He.ba q
    obtain ⟨_, q⟩ := He.ba q
    obtain ⟨_, q⟩ := He.ba q
    obtain ⟨_, q⟩ := He.ba q
    obtain ⟨_, q⟩ := He.ba q
    obtain ⟨z, q⟩ := He.ba q
    unfold inB at z
    rw [show (s.ins[n]?).join = some f from h1] at z
    dsimp only at z
    rw [e2]
    split at z
    · rename_i g hg
      obtain ⟨z1, z⟩ := He.ba z
      obtain ⟨z2, z⟩ := He.ba z
      obtain ⟨z3, z4⟩ := He.ba z
      exact ⟨g, hg, z1, He.eqO_ok z2, z3, z4⟩
    · cases z
  · obtain ⟨i, e⟩ := hdf n h2
    obtain ⟨i', e', _⟩ := hcn n' x h1
    obtain ⟨e1, e2, _⟩ := hci n i e
    have q := cl n i e
    obtain ⟨_, q⟩ := He.ba q
    obtain ⟨_, q⟩ := He.ba q
    obtain ⟨_, q⟩ := He.ba q
    obtain ⟨_, q⟩ := He.ba q
    obtain ⟨_, q⟩ := He.ba q
    obtain ⟨_, q⟩ := He.ba q
    obtain ⟨_, q⟩ := He.ba q
    obtain ⟨_, q⟩ := He.ba q
    obtain ⟨_, q⟩ := He.ba q
    obtain ⟨_, q⟩ := He.ba q
    obtain ⟨_, q⟩ := He.ba q
    obtain ⟨z, q⟩ := He.ba q
    rw [e1, e2]
    exact of_decide_eq_true (List.all_eq_true.mp z n' (List.mem_range.mpr (List.getElem?_eq_some_iff.mp e').1))
  · obtain ⟨i, e, _⟩ := hcn n x h1
    obtain ⟨e1, e2, _⟩ := hci n i e
    have q := cl n i e
    obtain ⟨_, q⟩ := He.ba q
    obtain ⟨_, q⟩ := He.ba q
    obtain ⟨_, q⟩ := He.ba q
    obtain ⟨_, q⟩ := He.ba q
    obtain ⟨_, q⟩ := He.ba q
    obtain ⟨_, q⟩ := He.ba q
    obtain ⟨_, q⟩ := He.ba q
    obtain ⟨_, q⟩ := He.ba q
    obtain ⟨_, q⟩ := He.ba q
    obtain ⟨_, q⟩ := He.ba q
    obtain ⟨_, q⟩ := He.ba q
    obtain ⟨_, q⟩ := He.ba q
    obtain ⟨z, q⟩ := He.ba q
    rw [e2]
    exact of_decide_eq_true (List.all_eq_true.mp z t h2)
  · obtain ⟨i, e⟩ := hdf n h1
    obtain ⟨e1, e2, _⟩ := hci n i e
    have q := cl n i e
    obtain ⟨_, q⟩ := He.ba q
    obtain ⟨_, q⟩ := He.ba q
    obtain ⟨_, q⟩ := He.ba q
    obtain ⟨_, q⟩ := He.ba q
    obtain ⟨_, q⟩ := He.ba q
    obtain ⟨_, q⟩ := He.ba q
    obtain ⟨_, q⟩ := He.ba q
    obtain ⟨_, q⟩ := He.ba q
    obtain ⟨_, q⟩ := He.ba q
    obtain ⟨_, q⟩ := He.ba q
    obtain ⟨_, q⟩ := He.ba q
    obtain ⟨_, q⟩ := He.ba q
    obtain ⟨_, z⟩ := He.ba q
    rw [e2]
    exact of_decide_eq_true (List.all_eq_true.mp z t (by cases t <;> simp [tyAll]))
  · exact He.free_ok X G (List.all_eq_true.mp c4 x hx)
end NV

namespace NV
open PySem L2
/-! ### evaluation: equations -/
@[simp] theorem ev_var (T : Tb) (i : Nat) (Γ : Env') (S : Sto) : ev T (.var i) Γ S = varW Γ i S := by
  rw [ev]
@[simp] theorem ev_int (T : Tb) (i : Int) (Γ : Env') (S : Sto) : ev T (.int i) Γ S = okD S (.int i) := by
  rw [ev]
@[simp] theorem ev_str (T : Tb) (s : Str) (Γ : Env') (S : Sto) : ev T (.str s) Γ S = okD S (.str s) := by
  rw [ev]
@[simp] theorem ev_bl (T : Tb) (b : Bool) (Γ : Env') (S : Sto) : ev T (.bl b) Γ S = okD S (.bl b) := by
  rw [ev]
@[simp] theorem ev_non (T : Tb)  (Γ : Env') (S : Sto) : ev T (.non ) Γ S = okD S .non := by
  rw [ev]
@[simp] theorem ev_glo (T : Tb) (j : Nat) (Γ : Env') (S : Sto) : ev T (.glo j) Γ S = opt (T.cs j) (okD S) := by
  rw [ev]
@[simp] theorem ev_bin (T : Tb) (op : BO) (a b : CE) (Γ : Env') (S : Sto) : ev T (.bin op a b) Γ S = (ev T a Γ S).bind (two (ev T b Γ) (binW T op)) := by
  rw [ev]
@[simp] theorem ev_neg (T : Tb) (a : CE) (Γ : Env') (S : Sto) : ev T (.neg a) Γ S = (ev T a Γ S).bind negK := by
  rw [ev]
@[simp] theorem ev_notv (T : Tb) (a : CE) (Γ : Env') (S : Sto) : ev T (.notv a) Γ S = (ev T a Γ S).bind (notW T) := by
  rw [ev]
@[simp] theorem ev_andv (T : Tb) (a b : CE) (Γ : Env') (S : Sto) : ev T (.andv a b) Γ S = (ev T a Γ S).bind (andE T (ev T b Γ)) := by
  rw [ev]
@[simp] theorem ev_orv (T : Tb) (a b : CE) (Γ : Env') (S : Sto) : ev T (.orv a b) Γ S = (ev T a Γ S).bind (orE T (ev T b Γ)) := by
  rw [ev]
@[simp] theorem ev_cmp (T : Tb) (op : CO) (a b : CE) (Γ : Env') (S : Sto) : ev T (.cmp op a b) Γ S = (ev T a Γ S).bind (two (ev T b Γ) (cmpW T op)) := by
  rw [ev]
@[simp] theorem ev_chain (T : Tb) (o1 o2 : CO) (a b c : CE) (Γ : Env') (S : Sto) : ev T (.chain o1 o2 a b c) Γ S = (ev T a Γ S).bind (two (ev T b Γ) (chK T o1 o2 (ev T c Γ))) := by
  rw [ev]
@[simp] theorem ev_ifx (T : Tb) (t : CT) (a b : CE) (Γ : Env') (S : Sto) : ev T (.ifx t a b) Γ S = (evt T t Γ S).bind (ifE (ev T a Γ) (ev T b Γ)) := by
  rw [ev]
@[simp] theorem ev_tup (T : Tb) (l : CL) (Γ : Env') (S : Sto) : ev T (.tup l) Γ S = (evs T l Γ S).bind tupK := by
  rw [ev]
@[simp] theorem ev_lst (T : Tb) (l : CL) (Γ : Env') (S : Sto) : ev T (.lst l) Γ S = (evs T l Γ S).bind lstK := by
  rw [ev]
@[simp] theorem ev_idx (T : Tb) (a b : CE) (Γ : Env') (S : Sto) : ev T (.idx a b) Γ S = (ev T a Γ S).bind (two (ev T b Γ) idxW) := by
  rw [ev]
@[simp] theorem ev_sli (T : Tb) (a : CE) (lo hi : CP) (Γ : Env') (S : Sto) : ev T (.sli a lo hi) Γ S = (ev T a Γ S).bind (slK (evo T lo Γ) (evo T hi Γ)) := by
  rw [ev]
@[simp] theorem ev_frz (T : Tb) (a : CE) (Γ : Env') (S : Sto) : ev T (.frz a) Γ S = (ev T a Γ S).bind (frzW S.length) := by
  rw [ev]
@[simp] theorem ev_call (T : Tb) (f : Nat) (l : CL) (ds : List Df) (Γ : Env') (S : Sto) : ev T (.call f l ds) Γ S = (evs T l Γ S).bind (callK T f ds) := by
  rw [ev]
@[simp] theorem ev_calL (T : Tb) (f : Nat) (l : CL) (ds : List Df) (Γ : Env') (S : Sto) : ev T (.calL f l ds) Γ S = (evs T l Γ S).bind (callLK T f ds) := by
  rw [ev]
@[simp] theorem ev_mk (T : Tb) (c f : Nat) (l : CL) (ds : List Df) (Γ : Env') (S : Sto) : ev T (.mk c f l ds) Γ S = (evs T l Γ S).bind (makeK T c f ds) := by
  rw [ev]
@[simp] theorem ev_fld (T : Tb) (o : CE) (a : Str) (Γ : Env') (S : Sto) : ev T (.fld o a) Γ S = (ev T o Γ S).bind (fldW T a) := by
  rw [ev]
@[simp] theorem ev_prp (T : Tb) (o : CE) (a : Str) (Γ : Env') (S : Sto) : ev T (.prp o a) Γ S = (ev T o Γ S).bind (prpW T a) := by
  rw [ev]
@[simp] theorem ev_con (T : Tb) (o : CE) (a : Str) (Γ : Env') (S : Sto) : ev T (.con o a) Γ S = (ev T o Γ S).bind (conW T a) := by
  rw [ev]
@[simp] theorem ev_mth (T : Tb) (o : CE) (m : Str) (l : CL) (ds : List Df) (Γ : Env') (S : Sto) : ev T (.mth o m l ds) Γ S = (ev T o Γ S).bind (mthE T m ds (evs T l Γ)) := by
  rw [ev]
@[simp] theorem ev_mtL (T : Tb) (o : CE) (m : Str) (l : CL) (ds : List Df) (Γ : Env') (S : Sto) : ev T (.mtL o m l ds) Γ S = (ev T o Γ S).bind (mthLE T m ds (evs T l Γ)) := by
  rw [ev]
@[simp] theorem ev_isc (T : Tb) (a : CE) (c : Nat) (Γ : Env') (S : Sto) : ev T (.isc a c) Γ S = (ev T a Γ S).bind (iscW T c) := by
  rw [ev]
@[simp] theorem ev_isi (T : Tb) (a : CE) (t : Ty) (Γ : Env') (S : Sto) : ev T (.isi a t) Γ S = (ev T a Γ S).bind (isiW T t) := by
  rw [ev]
@[simp] theorem ev_bi (T : Tb) (b : Bi) (a : CE) (Γ : Env') (S : Sto) : ev T (.bi b a) Γ S = (ev T a Γ S).bind (biW T b) := by
  rw [ev]
@[simp] theorem ev_bj (T : Tb) (b : Bj) (x y : CE) (Γ : Env') (S : Sto) : ev T (.bj b x y) Γ S = (ev T x Γ S).bind (two (ev T y Γ) (bjW b)) := by
  rw [ev]
@[simp] theorem ev_lrg (T : Tb) (a b : CE) (Γ : Env') (S : Sto) : ev T (.lrg a b) Γ S = (ev T a Γ S).bind (two (ev T b Γ) lrK) := by
  rw [ev]
@[simp] theorem ev_mt1 (T : Tb) (m : Mt) (o a : CE) (Γ : Env') (S : Sto) : ev T (.mt1 m o a) Γ S = (ev T o Γ S).bind (mtE m (ev T a Γ)) := by
  rw [ev]
@[simp] theorem ev_lc (T : Tb) (e : CE) (i : Nat) (s : CI) (Γ : Env') (S : Sto) : ev T (.lc e i s) Γ S = (evi T s Γ S).bind (lcE0 (ev T e) Γ i) := by
  rw [ev]
@[simp] theorem ev_lcc (T : Tb) (e : CE) (i : Nat) (s : CI) (t : CT) (Γ : Env') (S : Sto) : ev T (.lcc e i s t) Γ S = (evi T s Γ S).bind (lcE1 (evt T t) (ev T e) Γ i) := by
  rw [ev]
@[simp] theorem ev_lcu (T : Tb) (e : CE) (i : List Nat) (s : CI) (Γ : Env') (S : Sto) : ev T (.lcu e i s) Γ S = (evi T s Γ S).bind (lcG0 (stpC i) (ev T e) Γ) := by
  rw [ev]
@[simp] theorem ev_lccu (T : Tb) (e : CE) (i : List Nat) (s : CI) (t : CT) (Γ : Env') (S : Sto) : ev T (.lccu e i s t) Γ S = (evi T s Γ S).bind (lcG1 (stpC i) (evt T t) (ev T e) Γ) := by
  rw [ev]
@[simp] theorem ev_lc2 (T : Tb) (e : CE) (g1 g2 : Tg) (s1 s2 : CI) (Γ : Env') (S : Sto) : ev T (.lc2 e g1 s1 g2 s2) Γ S = (evi T s1 Γ S).bind (lc2E (g1.ns ++ g2.ns) g1 (evi T s2) (lc2f g2 (ev T e)) Γ) := by
  rw [ev]
@[simp] theorem ev_lc2c (T : Tb) (e : CE) (g1 g2 : Tg) (s1 s2 : CI) (t : CT) (Γ : Env') (S : Sto) : ev T (.lc2c e g1 s1 g2 s2 t) Γ S = (evi T s1 Γ S).bind (lc2E (g1.ns ++ g2.ns) g1 (evi T s2) (lc2fc g2 (evt T t) (ev T e)) Γ) := by
  rw [ev]
@[simp] theorem exec_ins (T : Tb) (o ix e : CE) (bb : Nat) (Γ : Env') (S : Sto) : exec T (.ins o ix e) bb Γ S = liftE Γ (ev T o Γ S) (ins1 Γ (ev T ix Γ) (ev T e Γ)) := by
  rw [exec]
@[simp] theorem exec_del (T : Tb) (o : CE) (ix : CP) (bb : Nat) (Γ : Env') (S : Sto) : exec T (.del o ix) bb Γ S = liftE Γ (ev T o Γ S) (pop1 Γ none (evo T ix Γ)) := by
  rw [exec]
@[simp] theorem exec_setp (T : Tb) (i : Nat) (o : CE) (ix : CP) (bb : Nat) (Γ : Env') (S : Sto) : exec T (.setp i o ix) bb Γ S = liftE Γ (ev T o Γ S) (pop1 Γ (some i) (evo T ix Γ)) := by
  rw [exec]
@[simp] theorem evi_en (T : Tb) (c : CE) (Γ : Env') (S : Sto) : evi T (.en c) Γ S = (ev T c Γ S).bind enK := by
  rw [evi]
@[simp] theorem exec_fru (T : Tb) (i : List Nat) (s : CI) (x : CB) (bb : Nat) (Γ : Env') (S : Sto) : exec T (.fru i s x) bb Γ S = liftE Γ (evi T s Γ S) (forG (execs T x) (stpU i) Γ) := by
  rw [exec]
@[simp] theorem exec_clr (T : Tb) (o : CE) (bb : Nat) (Γ : Env') (S : Sto) : exec T (.clr o) bb Γ S = liftE Γ (ev T o Γ S) (clr1 Γ) := by
  rw [exec]
@[simp] theorem exec_rvs (T : Tb) (o : CE) (bb : Nat) (Γ : Env') (S : Sto) : exec T (.rvs o) bb Γ S = liftE Γ (ev T o Γ S) (rvs1 Γ) := by
  rw [exec]
@[simp] theorem enK_l (l : List D) (S : Sto) : enK (.v (.lst l)) S = .ok (.v (.tup (enumD l))) S := id rfl
@[simp] theorem forG_t (ex : Nat → Env' → Sto → SOut) (stp : W → Env' → Option Env') (Γ : Env') (l : List D) (S : Sto) : forG ex stp Γ (.v (.tup l)) S = forW (lpG ex stp) (.v (.tup l)) (false, l.map W.v) (l.map W.v) Γ S := id rfl
@[simp] theorem forG_l (ex : Nat → Env' → Sto → SOut) (stp : W → Env' → Option Env') (Γ : Env') (l : List D) (S : Sto) : forG ex stp Γ (.v (.lst l)) S = forW (lpG ex stp) (.v (.lst l)) (true, l.map W.v) (l.map W.v) Γ S := id rfl
@[simp] theorem evs_nil0 (T : Tb)  (Γ : Env') (S : Sto) : evs T (.nil ) Γ S = .ok [] S := by
  rw [evs]
@[simp] theorem evs_cons (T : Tb) (e : CE) (l : CL) (Γ : Env') (S : Sto) : evs T (.cons e l) Γ S = (ev T e Γ S).bind (consE (evs T l Γ)) := by
  rw [evs]
@[simp] theorem evs_star (T : Tb) (e : CE) (l : CL) (Γ : Env') (S : Sto) : evs T (.star e l) Γ S = (ev T e Γ S).bind (starE (evs T l Γ)) := by
  rw [evs]
@[simp] theorem evt_e (T : Tb) (c : CE) (Γ : Env') (S : Sto) : evt T (.e c) Γ S = (ev T c Γ S).bind (truW T) := by
  rw [evt]
@[simp] theorem evt_cmp (T : Tb) (op : CO) (a b : CE) (Γ : Env') (S : Sto) : evt T (.cmp op a b) Γ S = (ev T a Γ S).bind (two (ev T b Γ) (cmpT T op)) := by
  rw [evt]
@[simp] theorem evt_chain (T : Tb) (o1 o2 : CO) (a b c : CE) (Γ : Env') (S : Sto) : evt T (.chain o1 o2 a b c) Γ S = (ev T a Γ S).bind (two (ev T b Γ) (chT T o1 o2 (ev T c Γ))) := by
  rw [evt]
@[simp] theorem evt_and (T : Tb) (a b : CT) (Γ : Env') (S : Sto) : evt T (.and a b) Γ S = (evt T a Γ S).bind (ifE (evt T b Γ) okF) := by
  rw [evt]
@[simp] theorem evt_or (T : Tb) (a b : CT) (Γ : Env') (S : Sto) : evt T (.or a b) Γ S = (evt T a Γ S).bind (ifE okT1 (evt T b Γ)) := by
  rw [evt]
@[simp] theorem evt_not (T : Tb) (a : CT) (Γ : Env') (S : Sto) : evt T (.not a) Γ S = (evt T a Γ S).bind notT := by
  rw [evt]
@[simp] theorem evo_no (T : Tb)  (Γ : Env') (S : Sto) : evo T (.no ) Γ S = .ok none S := by
  rw [evo]
@[simp] theorem evo_so (T : Tb) (e : CE) (Γ : Env') (S : Sto) : evo T (.so e) Γ S = (ev T e Γ S).bind poK := by
  rw [evo]
@[simp] theorem evi_e (T : Tb) (c : CE) (Γ : Env') (S : Sto) : evi T (.e c) Γ S = (ev T c Γ S).bind seqK := by
  rw [evi]
@[simp] theorem evi_s (T : Tb) (c : CE) (Γ : Env') (S : Sto) : evi T (.s c) Γ S = (ev T c Γ S).bind sgnK := by
  rw [evi]
@[simp] theorem evi_r1 (T : Tb) (a : CE) (Γ : Env') (S : Sto) : evi T (.r1 a) Γ S = (ev T a Γ S).bind r1K := by
  rw [evi]
@[simp] theorem evi_r2 (T : Tb) (a b : CE) (Γ : Env') (S : Sto) : evi T (.r2 a b) Γ S = (ev T a Γ S).bind (two (ev T b Γ) r2K) := by
  rw [evi]
@[simp] theorem exec_set (T : Tb) (i : Nat) (e : CE) (bb : Nat) (Γ : Env') (S : Sto) : exec T (.set i e) bb Γ S = liftE Γ (ev T e Γ S) (setK Γ i) := by
  rw [exec]
@[simp] theorem exec_unp (T : Tb) (is : List Nat) (e : CE) (bb : Nat) (Γ : Env') (S : Sto) : exec T (.unp is e) bb Γ S = liftE Γ (ev T e Γ S) (unpK Γ is) := by
  rw [exec]
@[simp] theorem exec_sfld (T : Tb) (i : Nat) (a : Str) (e : CE) (bb : Nat) (Γ : Env') (S : Sto) : exec T (.sfld i a e) bb Γ S = liftE Γ (ev T e Γ S) (sfldK T Γ i a) := by
  rw [exec]
@[simp] theorem exec_sidx (T : Tb) (o ix e : CE) (bb : Nat) (Γ : Env') (S : Sto) : exec T (.sidx o ix e) bb Γ S = liftE Γ (ev T e Γ S) (six1 Γ (ev T o Γ) (ev T ix Γ)) := by
  rw [exec]
@[simp] theorem exec_app (T : Tb) (o e : CE) (bb : Nat) (Γ : Env') (S : Sto) : exec T (.app o e) bb Γ S = liftE Γ (ev T o Γ S) (app1 Γ (ev T e Γ)) := by
  rw [exec]
@[simp] theorem exec_ex (T : Tb) (e : CE) (bb : Nat) (Γ : Env') (S : Sto) : exec T (.ex e) bb Γ S = liftE Γ (ev T e Γ S) (exK Γ) := by
  rw [exec]
@[simp] theorem exec_ret (T : Tb) (e : CE) (bb : Nat) (Γ : Env') (S : Sto) : exec T (.ret e) bb Γ S = liftE Γ (ev T e Γ S) retK := by
  rw [exec]
@[simp] theorem exec_ret0 (T : Tb)  (bb : Nat) (Γ : Env') (S : Sto) : exec T (.ret0 ) bb Γ S = .rt (.v .non) S := by
  rw [exec]
@[simp] theorem exec_ite (T : Tb) (t : CT) (x y : CB) (bb : Nat) (Γ : Env') (S : Sto) : exec T (.ite t x y) bb Γ S = liftE Γ (evt T t Γ S) (iteK (execs T x bb Γ) (execs T y bb Γ)) := by
  rw [exec]
@[simp] theorem exec_fr (T : Tb) (i : Nat) (s : CI) (x : CB) (bb : Nat) (Γ : Env') (S : Sto) : exec T (.fr i s x) bb Γ S = liftE Γ (evi T s Γ S) (forK (execs T x) Γ i) := by
  rw [exec]
@[simp] theorem exec_brk (T : Tb)  (bb : Nat) (Γ : Env') (S : Sto) : exec T (.brk ) bb Γ S = .bk Γ S := by
  rw [exec]
@[simp] theorem exec_cnt (T : Tb)  (bb : Nat) (Γ : Env') (S : Sto) : exec T (.cnt ) bb Γ S = .ct Γ S := by
  rw [exec]
@[simp] theorem exec_pas (T : Tb)  (bb : Nat) (Γ : Env') (S : Sto) : exec T (.pas ) bb Γ S = .nx Γ S := by
  rw [exec]
@[simp] theorem exec_rai (T : Tb) (c f : Nat) (l : CL) (bb : Nat) (Γ : Env') (S : Sto) : exec T (.rai c f l) bb Γ S = liftE Γ (evs T l Γ S) (raiK T Γ c) := by
  rw [exec]
@[simp] theorem exec_try (T : Tb) (x : CB) (hs : List Hd) (bb : Nat) (Γ : Env') (S : Sto) : exec T (.try_ x hs) bb Γ S = tryK T hs (execs T x bb Γ S) := by
  rw [exec]
@[simp] theorem execs_nil (T : Tb)  (bb : Nat) (Γ : Env') (S : Sto) : execs T (.nil ) bb Γ S = .nx Γ S := by
  rw [execs]
@[simp] theorem execs_cons (T : Tb) (s : CS) (x : CB) (bb : Nat) (Γ : Env') (S : Sto) : execs T (.cons s x) bb Γ S = (exec T s bb Γ S).seq (execs T x bb) := by
  rw [execs]
@[simp] theorem execs_frz (T : Tb) (i : Nat) (x : CB) (bb : Nat) (Γ : Env') (S : Sto) : execs T (.frz i x) bb Γ S = frzS bb i (execs T x bb) Γ S := by
  rw [execs]
/-! ### small steps -/
def varO (o : Option (Option W)) (S : Sto) : Out W := match o with
  | some (some w) => .ok w S
  | _ => .bad
@[simp] theorem varO_some (w : W) (S : Sto) : varO (some (some w)) S = .ok w S := id rfl
@[simp] theorem varW_def (Γ : Env') (i : Nat) (S : Sto) : varW Γ i S = varO Γ[i]? S := by
  unfold varW varO
  cases Γ[i]? with
  | none => rfl
  | some o => cases o <;> rfl
@[simp] theorem okD_def (S : Sto) (d : D) : okD S d = .ok (.v d) S := id rfl
@[simp] theorem okB_def (S : Sto) (d : Bool) : okB S d = .ok (.v (.bl d)) S := id rfl
@[simp] theorem okW_def (S : Sto) (d : W) : okW S d = .ok d S := id rfl
@[simp] theorem okT_def (S : Sto) (d : Bool) : okT S d = .ok d S := id rfl
@[simp] theorem okF_def (S : Sto) : okF S = .ok false S := id rfl
@[simp] theorem okT1_def (S : Sto) : okT1 S = .ok true S := id rfl
@[simp] theorem notT_def (b : Bool) (S : Sto) : notT b S = .ok (!b) S := id rfl
@[simp] theorem alc_def (c : Cell) (S : Sto) : alc c S = .ok (.r S.length) (S ++ [c]) := id rfl
@[simp] theorem two_def {β : Type} (m : Sto → Out W) (k : W → W → Sto → Out β) (x : W) (S : Sto) : two m k x S = (m S).bind (k x) := id rfl
@[simp] theorem consE_def (m : Sto → Out (List W)) (x : W) (S : Sto) : consE m x S = (m S).bind (consK x) := id rfl
@[simp] theorem consK_def (x : W) (l : List W) (S : Sto) : consK x l S = .ok (x :: l) S := id rfl
@[simp] theorem ifE_def {α : Type} (m n : Sto → Out α) (b : Bool) (S : Sto) : ifE m n b S = if b then m S else n S := id rfl
@[simp] theorem setK_def (Γ : Env') (i : Nat) (w : W) (S : Sto) : setK Γ i w S = .nx (Γ.set i (some w)) S := id rfl
@[simp] theorem retK_def (w : W) (S : Sto) : retK w S = .rt w S := id rfl
@[simp] theorem exK_def (Γ : Env') (w : W) (S : Sto) : exK Γ w S = .nx Γ S := id rfl
@[simp] theorem iteK_def (a b : Sto → SOut) (z : Bool) (S : Sto) : iteK a b z S = if z then a S else b S := id rfl
@[simp] theorem negK_int (i : Int) (S : Sto) : negK (.v (.int i)) S = .ok (.v (.int (-i))) S := id rfl
@[simp] theorem callK_def (T : Tb) (f : Nat) (ds : List Df) (ws : List W) (S : Sto) : callK T f ds ws S = callW T f (ws ++ dfs ds) S := id rfl
@[simp] theorem makeK_def (T : Tb) (c f : Nat) (ds : List Df) (ws : List W) (S : Sto) : makeK T c f ds ws S = makeW T c f (ws ++ dfs ds) S := id rfl
@[simp] theorem mthK_def (T : Tb) (f : Nat) (ds : List Df) (x : W) (ws : List W) (S : Sto) : mthK T f ds x ws S = callW T f (x :: (ws ++ dfs ds)) S := id rfl
@[simp] theorem poK_int (i : Int) (S : Sto) : poK (.v (.int i)) S = .ok (some i) S := id rfl
@[simp] theorem frzW_v (k : Nat) (d : D) (S : Sto) : frzW k (.v d) S = .ok (.v d) S := id rfl
@[simp] theorem lpS_def (ex : Nat → Env' → Sto → SOut) (i : Nat) (d : W) (Γ : Env') (S : Sto) : lpS ex i d Γ S = ex S.length (Γ.set i (some d)) S := id rfl
@[simp] theorem intW_int (i : Int) : intW (.v (.int i)) = some i := id rfl
/-! operators on flat values -/
@[simp] theorem binW_ii (T : Tb) (op : BO) (i j : Int) (S : Sto) : binW T op (.v (.int i)) (.v (.int j)) S = opt (binD op (.int i) (.int j)) (okD S) := id rfl
@[simp] theorem binW_ss (T : Tb) (op : BO) (i j : Str) (S : Sto) : binW T op (.v (.str i)) (.v (.str j)) S = opt (binD op (.str i) (.str j)) (okD S) := id rfl
@[simp] theorem binD_add (i j : Int) : binD .add (.int i) (.int j) = some (.int (i + j)) := id rfl
@[simp] theorem binD_sub (i j : Int) : binD .sub (.int i) (.int j) = some (.int (i - j)) := id rfl
@[simp] theorem binD_mul (i j : Int) : binD .mul (.int i) (.int j) = if (smallI i || smallI j) = true then some (.int (i * j)) else none := id rfl
@[simp] theorem binD_mod (i j : Int) : binD .mod (.int i) (.int j) = if 0 < j then some (.int (i % j)) else none := id rfl
@[simp] theorem binD_fdiv (i j : Int) : binD .fdiv (.int i) (.int j) = if 0 < j ∧ j.natAbs.log2 < 9000 then some (.int (i / j)) else none := id rfl
@[simp] theorem binD_pow (i j : Int) : binD .pow (.int i) (.int j) = if 0 ≤ j ∧ j ≤ 1000000 ∧ i.natAbs < 2 ^ 64 then some (.int (i ^ j.toNat)) else none := id rfl
@[simp] theorem look_v (S : Sto) (d : D) : look S (.v d) = some d := by
  unfold look rd
  rfl
theorem cmpW_plain (T : Tb) (op : CO) (x y : D) (S : Sto) (hx : objOf S (.v x) = none) (hy : objOf S (.v y) = none) : cmpW T op (.v x) (.v y) S = opt (cmpD op x y) (okB S) := by
  unfold cmpW
  cases op <;> simp only [hx, hy, look_v, opt_some]
@[simp] theorem cmpW_lt (T : Tb) (i j : Int) (S : Sto) : cmpW T .lt (.v (.int i)) (.v (.int j)) S = .ok (.v (.bl (decide (i < j)))) S := (cmpW_plain T _ _ _ S rfl rfl).trans rfl
@[simp] theorem cmpW_le (T : Tb) (i j : Int) (S : Sto) : cmpW T .le (.v (.int i)) (.v (.int j)) S = .ok (.v (.bl (decide (i ≤ j)))) S := (cmpW_plain T _ _ _ S rfl rfl).trans rfl
@[simp] theorem cmpW_gt (T : Tb) (i j : Int) (S : Sto) : cmpW T .gt (.v (.int i)) (.v (.int j)) S = .ok (.v (.bl (decide (j < i)))) S := (cmpW_plain T _ _ _ S rfl rfl).trans rfl
@[simp] theorem cmpW_ge (T : Tb) (i j : Int) (S : Sto) : cmpW T .ge (.v (.int i)) (.v (.int j)) S = .ok (.v (.bl (decide (j ≤ i)))) S := (cmpW_plain T _ _ _ S rfl rfl).trans rfl
theorem dat_int (i : Int) : datD (.int i) = true := id rfl
@[simp] theorem cmpW_eqI (T : Tb) (i j : Int) (S : Sto) : cmpW T .eq (.v (.int i)) (.v (.int j)) S = .ok (.v (.bl (i == j))) S := (cmpW_plain T _ _ _ S rfl rfl).trans rfl
@[simp] theorem cmpW_neI (T : Tb) (i j : Int) (S : Sto) : cmpW T .ne (.v (.int i)) (.v (.int j)) S = .ok (.v (.bl (!(i == j)))) S := (cmpW_plain T _ _ _ S rfl rfl).trans rfl
@[simp] theorem cmpW_isN (T : Tb) (x : D) (S : Sto) : cmpW T .is (.v x) (.v .non) S = .ok (.v (.bl (isNon x))) S := by
  unfold cmpW
  simp only [look_v, opt_some]
  cases x <;> rfl
@[simp] theorem cmpW_isB (T : Tb) (x : D) (b : Bool) (S : Sto) : cmpW T .is (.v x) (.v (.bl b)) S = .ok (.v (.bl (isBl b x))) S := by
  unfold cmpW
  simp only [look_v, opt_some]
  cases x <;> rfl
@[simp] theorem truO_bl (b : Bool) (S : Sto) : truO (.v (.bl b)) S = .ok b S := id rfl
@[simp] theorem boolO_bl (b : Bool) (S : Sto) : boolO (.v (.bl b)) S = .ok (.v (.bl b)) S := id rfl
@[simp] theorem notO_bl (b : Bool) (S : Sto) : notO (.v (.bl b)) S = .ok (.v (.bl (!b))) S := id rfl
@[simp] theorem truW_bl (T : Tb) (b : Bool) (S : Sto) : truW T (.v (.bl b)) S = .ok b S := by
  unfold truW
  simp only [look_v, opt_some, objOf]
  rfl
@[simp] theorem truW_int (T : Tb) (i : Int) (S : Sto) : truW T (.v (.int i)) S = .ok (i != 0) S := by
  unfold truW
  simp only [look_v, opt_some, objOf]
  rfl
@[simp] theorem cmpT_def (T : Tb) (op : CO) (x y : W) (S : Sto) : cmpT T op x y S = (cmpW T op x y S).bind truO := id rfl
@[simp] theorem chK_def (T : Tb) (o1 o2 : CO) (mc : Sto → Out W) (x y : W) (S : Sto) : chK T o1 o2 mc x y S = (cmpW T o1 x y S).bind (chK1 T o2 mc y) := id rfl
@[simp] theorem chT_def (T : Tb) (o1 o2 : CO) (mc : Sto → Out W) (x y : W) (S : Sto) : chT T o1 o2 mc x y S = (chK T o1 o2 mc x y S).bind truO := id rfl
@[simp] theorem chK1_bl (T : Tb) (o : CO) (mc : Sto → Out W) (y : W) (c : Bool) (S : Sto) : chK1 T o mc y (.v (.bl c)) S = if c then (mc S).bind (chK2 T o y) else .ok (.v (.bl false)) S := id rfl
@[simp] theorem chK2_def (T : Tb) (o : CO) (y z : W) (S : Sto) : chK2 T o y z S = cmpW T o y z S := id rfl
@[simp] theorem andE_bl (T : Tb) (m : Sto → Out W) (b : Bool) (S : Sto) : andE T m (.v (.bl b)) S = if b then m S else .ok (.v (.bl b)) S := by
  unfold andE
  rw [truW_bl]
  rfl
@[simp] theorem orE_bl (T : Tb) (m : Sto → Out W) (b : Bool) (S : Sto) : orE T m (.v (.bl b)) S = if b then .ok (.v (.bl b)) S else m S := by
  unfold orE
  rw [truW_bl]
  rfl
@[simp] theorem notW_bl (T : Tb) (b : Bool) (S : Sto) : notW T (.v (.bl b)) S = .ok (.v (.bl (!b))) S := by
  unfold notW
  rw [truW_bl]
  rfl
/-! sequences -/
@[simp] theorem seqOf_l (S : Sto) (l : List D) : seqOf S (.v (.lst l)) = some (l.map W.v) := id rfl
@[simp] theorem seqOf_t (S : Sto) (l : List D) : seqOf S (.v (.tup l)) = some (l.map W.v) := id rfl
@[simp] theorem listOf_l (S : Sto) (l : List D) : listOf S (.v (.lst l)) = some (l.map W.v) := id rfl
@[simp] theorem sqOf_l (S : Sto) (l : List D) : sqOf S (.v (.lst l)) = some (true, l.map W.v) := id rfl
@[simp] theorem sqOf_t (S : Sto) (l : List D) : sqOf S (.v (.tup l)) = some (false, l.map W.v) := id rfl
@[simp] theorem idxW_l (l : List D) (i : Int) (S : Sto) : idxW (.v (.lst l)) (.v (.int i)) S = opt (atI (l.map W.v) i) (okW S) := id rfl
@[simp] theorem idxW_t (l : List D) (i : Int) (S : Sto) : idxW (.v (.tup l)) (.v (.int i)) S = opt (atI (l.map W.v) i) (okW S) := id rfl
@[simp] theorem idxW_scr (l : List Int) (i : Int) (S : Sto) : idxW (.v (.scr l)) (.v (.int i)) S = opt (atI l i) (fun c => okD S (.int c)) := id rfl
@[simp] theorem seqK_l (S : Sto) (l : List D) : seqK (.v (.lst l)) S = .ok (.v (.lst l)) S := id rfl
@[simp] theorem seqK_s (S : Sto) (z : Str) : seqK (.v (.str z)) S = need (z.length ≤ sizeLine) (okD S (.tup (z.cps.toList.map fun c => .str (chr1 c)))) := id rfl
@[simp] theorem seqK_t (S : Sto) (l : List D) : seqK (.v (.tup l)) S = .ok (.v (.tup l)) S := id rfl
@[simp] theorem biW_lenL (T : Tb) (l : List D) (S : Sto) : biW T .len (.v (.lst l)) S = .ok (.v (.int (l.map W.v).length)) S := id rfl
@[simp] theorem biW_lenT (T : Tb) (l : List D) (S : Sto) : biW T .len (.v (.tup l)) S = .ok (.v (.int (l.map W.v).length)) S := id rfl
@[simp] theorem biW_lenS (T : Tb) (l : List Int) (S : Sto) : biW T .len (.v (.scr l)) S = .ok (.v (.int l.length)) S := id rfl
@[simp] theorem biW_intI (T : Tb) (i : Int) (S : Sto) : biW T .int (.v (.int i)) S = .ok (.v (.int i)) S := id rfl
@[simp] theorem biW_boolB (T : Tb) (i : Bool) (S : Sto) : biW T .bool (.v (.bl i)) S = .ok (.v (.bl i)) S := id rfl
@[simp] theorem biW_listL (T : Tb) (l : List D) (S : Sto) : biW T .list (.v (.lst l)) S = .ok (.r S.length) (S ++ [.lst (l.map W.v)]) := id rfl
@[simp] theorem bjW_max (i j : Int) (S : Sto) : bjW .max (.v (.int i)) (.v (.int j)) S = .ok (.v (.int (if j > i then j else i))) S := id rfl
@[simp] theorem bjW_min (i j : Int) (S : Sto) : bjW .min (.v (.int i)) (.v (.int j)) S = .ok (.v (.int (if j < i then j else i))) S := id rfl
@[simp] theorem lstK_def (l : List W) (S : Sto) : lstK l S = need (l.length ≤ sizeLine) (.ok (.r S.length) (S ++ [.lst l])) := id rfl
@[simp] theorem r1K_int (n : Int) (S : Sto) : r1K (.v (.int n)) S = need (-(2 ^ 62) ≤ n ∧ n < 2 ^ 62) (okD S (.tup (rangeD 0 n.toNat))) := id rfl
@[simp] theorem r2K_int (n m : Int) (S : Sto) : r2K (.v (.int n)) (.v (.int m)) S = need ((-(2 ^ 62) ≤ n ∧ n < 2 ^ 62) ∧ (-(2 ^ 62) ≤ m ∧ m < 2 ^ 62)) (okD S (.tup (rangeD n (m - n).toNat))) := id rfl
@[simp] theorem lrK_int (n m : Int) (S : Sto) : lrK (.v (.int n)) (.v (.int m)) S = need ((m - n).toNat ≤ 16777216) (.ok (.r S.length) (S ++ [.lst ((rangeD n (m - n).toNat).map W.v)])) := id rfl
@[simp] theorem unV_nil : unV [] = some [] := id rfl
@[simp] theorem unV_v (d : D) (l : List W) : unV (.v d :: l) = (unV l).map (d :: ·) := id rfl
@[simp] theorem unV_mapv : ∀ l : List D, unV (l.map W.v) = some l
  | [] => rfl
  | d :: l => by simp [unV_mapv l]
/-! objects -/
@[simp] theorem objOf_i (S : Sto) (c : Nat) (l : List D) : objOf S (.v (.ins c l)) = some (c, l.map W.v) := id rfl
@[simp] theorem fldW_i (T : Tb) (a : Str) (c : Nat) (l : List D) (S : Sto) : fldW T a (.v (.ins c l)) S = opt (fldK T a (c, l.map W.v)) (okW S) := id rfl
/-! ### settled stores -/
def closed (S : Sto) : Bool := S.all (Cell.below S.length)
@[simp] theorem closed_nil : closed [] = true := id rfl
theorem cut_app {S R : Sto} (h : closed S = true) : cut S.length (S ++ R) = some S := by
  unfold cut
  rw [if_pos]
  · rw [List.take_left]
  · rw [List.take_left]
    exact ⟨by simp, h⟩
theorem cut_same {S : Sto} (h : closed S = true) : cut S.length S = some S := by
  have := cut_app (R := []) h
  rwa [List.append_nil] at this
/-- what a def gave is this tree -/
def Ret (o : Out W) (d : D) : Prop := ∃ S', o = .ok (.v d) S' ∨ ∃ n c, o = .ok (.r n) S' ∧ S'[n]? = some c ∧ c.tree = some d
theorem Ret.v {d : D} {S : Sto} : Ret (.ok (.v d) S) d := ⟨S, .inl rfl⟩
theorem Ret.l {n : Nat} {S : Sto} {l : List D} (h : S[n]? = some (.lst (l.map W.v))) : Ret (.ok (.r n) S) (.lst l) := ⟨S, .inr ⟨n, _, rfl, h, by simp [Cell.tree]⟩⟩
theorem Ret.i {n c : Nat} {S : Sto} {l : List D} (h : S[n]? = some (.ins c (l.map W.v))) : Ret (.ok (.r n) S) (.ins c l) := ⟨S, .inr ⟨n, _, rfl, h, by simp [Cell.tree]⟩⟩
theorem rdf_tree {k n : Nat} {S : Sto} {c : Cell} {d : D} (hn : k ≤ n) (h : S[n]? = some c) (ht : c.tree = some d) : rdf k S 4 (.r n) = some d := by
  have key : ∀ (l : List W) (ds : List D), unV l = some ds → rdfs k S 3 l = some ds := by
    intro l
    induction l with
    | nil => intro ds e; cases e; unfold rdfs; rfl
    | cons w l ih =>
      intro ds e
      cases w with
      | r m => cases e
      | v d' =>
        obtain ⟨m, e1, rfl⟩ := Option.map_eq_some_iff.mp (show (unV l).map (d' :: ·) = some ds from e)
        unfold rdfs
        rw [show rdf k S 3 (.v d') = some d' from by unfold rdf; rfl]
        rw [ih m e1]
        rfl
  unfold rdf
  rw [if_neg (by omega), h]
  cases c with
  | dead => cases ht
  | lst l => obtain ⟨ds, e, rfl⟩ := Option.map_eq_some_iff.mp ht; simp only [key l ds e]; rfl
  | tup l => obtain ⟨ds, e, rfl⟩ := Option.map_eq_some_iff.mp ht; simp only [key l ds e]; rfl
  | dct ks l => obtain ⟨ds, e, rfl⟩ := Option.map_eq_some_iff.mp ht; simp only [key l ds e]; rfl
  | ins c l => obtain ⟨ds, e, rfl⟩ := Option.map_eq_some_iff.mp ht; simp only [key l ds e]; rfl
/-- what an expression made at the end of the store is settled -/
theorem frz_new {S : Sto} {c : Cell} {d : D} (hS : closed S = true) (ht : c.tree = some d) : frzW S.length (.r S.length) (S ++ [c]) = .ok (.v d) S := by
  unfold frzW
  dsimp only
  rw [rdf_tree (Nat.le_refl _) (by simp) ht, cut_app hS]
  rfl
theorem frz_l {S : Sto} {l : List D} (hS : closed S = true) : frzW S.length (.r S.length) (S ++ [.lst (l.map W.v)]) = .ok (.v (.lst l)) S := frz_new hS (by simp [Cell.tree])
theorem emb_frz {S S' : Sto} {w : W} {d : D} (hS : closed S = true) (h : Ret (.ok w S') d) : (emb S w S').bind (frzW S.length) = .ok (.v d) S := by
  obtain ⟨S'', h | ⟨n, c, h, h1, h2⟩⟩ := h
  · cases h; rfl
  · cases h
    unfold emb
    dsimp only
    rw [h1]
    dsimp only
    rw [if_pos (by rw [h2]; rfl), alc_def, Out.bind_ok]
    exact frz_new hS h2
theorem call_frz {T : Tb} {f : Nat} {ws : List W} {ds : List D} {S : Sto} {d : D} (hw : unV ws = some ds) (h : Ret (T.fs f [] ws) d) (hS : closed S = true) : (callW T f ws S).bind (frzW S.length) = .ok (.v d) S := by
  unfold callW
  rw [hw]
  dsimp only
  cases ho : T.fs f [] ws with
  | bad => rw [ho] at h; obtain ⟨_, h | ⟨_, _, h, _⟩⟩ := h <;> cases h
  | err e S1 => rw [ho] at h; obtain ⟨_, h | ⟨_, _, h, _⟩⟩ := h <;> cases h
  | ok w S1 => rw [ho] at h; exact emb_frz hS h
/-- a def that gives a settled tree -/
theorem call_v {T : Tb} {f : Nat} {ws : List W} {ds : List D} {S S' : Sto} {d : D} (hw : unV ws = some ds) (h : T.fs f [] ws = .ok (.v d) S') : callW T f ws S = .ok (.v d) S := by
  unfold callW
  rw [hw, h]
  rfl
theorem make_frz {T : Tb} {c f : Nat} {ws : List W} {ds : List D} {S S' : Sto} {l : List D} (hw : unV ws = some ds) (h : T.fs f [.ins c []] (.r 0 :: ws) = .ok (.v .non) S') (h0 : S'[0]? = some (.ins c (l.map W.v))) (hS : closed S = true) : (makeW T c f ws S).bind (frzW S.length) = .ok (.v (.ins c l)) S := by
  unfold makeW
  rw [hw, h]
  show (emb S (.r 0) S').bind _ = _
  exact emb_frz hS (.i h0)
/-! ### loops -/
theorem forW_inv {f : W → Env' → Sto → SOut} {w : W} {p : Bool × List W} (I : Env' → Sto → Prop) : ∀ (l : List W) {Γ : Env'} {S : Sto}, (∀ d ∈ l, ∀ Γ S, I Γ S → ∃ Γ' S', f d Γ S = .nx Γ' S' ∧ I Γ' S' ∧ sqOf S' w = some p) → I Γ S → ∃ Γ' S', forW f w p l Γ S = .nx Γ' S' ∧ I Γ' S'
  | [], Γ, S, _, h => ⟨Γ, S, rfl, h⟩
  | d :: r, Γ, S, hs, h => by
    obtain ⟨Γ', S', h1, h2, h3⟩ := hs d (by simp) Γ S h
    obtain ⟨Γ2, S2, h4, h5⟩ := forW_inv I r (fun d hd => hs d (by simp [hd])) h2
    refine ⟨Γ2, S2, ?_, h5⟩
    unfold forW
    rw [h1]
    dsimp only
    rw [needS_pos h3, h4]
@[simp] theorem forW_nil (f : W → Env' → Sto → SOut) (w : W) (p : Bool × List W) (Γ : Env') (S : Sto) : forW f w p [] Γ S = .nx Γ S := id rfl
theorem forW_cons {f : W → Env' → Sto → SOut} {w d : W} {p : Bool × List W} {r : List W} {Γ Γ' : Env'} {S S' : Sto} (h : f d Γ S = .nx Γ' S') (hq : sqOf S' w = some p) : forW f w p (d :: r) Γ S = forW f w p r Γ' S' := by
  rw [forW, h]
  dsimp only
  rw [needS_pos hq]
theorem forK_def {ex : Nat → Env' → Sto → SOut} {Γ : Env'} {i : Nat} {w : W} {S : Sto} {p : Bool × List W} (h : sqOf S w = some p) : forK ex Γ i w S = forW (lpS ex i) w p p.2 Γ S := by
  unfold forK
  rw [h]
  rfl
@[simp] theorem forK_l (ex : Nat → Env' → Sto → SOut) (Γ : Env') (i : Nat) (l : List D) (S : Sto) : forK ex Γ i (.v (.lst l)) S = forW (lpS ex i) (.v (.lst l)) (true, l.map W.v) (l.map W.v) Γ S := id rfl
@[simp] theorem forK_t (ex : Nat → Env' → Sto → SOut) (Γ : Env') (i : Nat) (l : List D) (S : Sto) : forK ex Γ i (.v (.tup l)) S = forW (lpS ex i) (.v (.tup l)) (false, l.map W.v) (l.map W.v) Γ S := id rfl
theorem runD_def (T : Tb) (n : Nat) (x : CB) (S : Sto) (ws : List W) : runD T n x S ws = retO (execs T x S.length (ws.map some ++ List.replicate (n - ws.length) none) S) := id rfl
@[simp] theorem retO_rt (w : W) (S : Sto) : retO (.rt w S) = .ok w S := id rfl
@[simp] theorem retO_nx (Γ : Env') (S : Sto) : retO (.nx Γ S) = .ok (.v .non) S := id rfl
theorem app_at {S : Sto} {c : Cell} : (S ++ [c])[S.length]? = some c := by simp
/-- a list grows -/
theorem app1_r {Γ : Env'} {me : Sto → Out W} {n : Nat} {S S1 : Sto} {l l1 : List W} {w : W} (h : S[n]? = some (.lst l)) (hm : me S = .ok w S1) (h1 : S1[n]? = some (.lst l1)) (hz : l1.length < sizeLine) : app1 Γ me (.r n) S = .nx Γ (S1.set n (.lst (l1 ++ [w]))) := by
  unfold app1
  rw [show listOf S (.r n) = some l from by simp only [listOf, h], optS_some, hm, liftE_ok]
  unfold app2 mutL
  dsimp only
  rw [h1]
  dsimp only
  unfold appF
  rw [if_pos hz]
  rfl
theorem step_at {p : Pg} {n : Nat} {f : Fn} (h : p.fns[n]? = some f) (t : Nat → Sto → List W → Out W) (S : Sto) (ws : List W) (hl : ws.length = f.ps.length) : step p n t S ws = runD ⟨t, p.cd, p.ci⟩ f.N.length f.b S ws := by
  unfold step
  rw [h]
  exact need_pos hl
theorem tab_at {p : Pg} {n j : Nat} {f : Fn} (hj : j < n) (h : p.fns[j]? = some f) (S : Sto) (ws : List W) (hl : ws.length = f.ps.length) : tab p n j S ws = runD ⟨tab p j, p.cd, p.ci⟩ f.N.length f.b S ws := by
  rw [tab_lt hj]
  exact step_at h _ S ws hl
end NV

namespace NV
open PySem L2
/-! ### more equations -/
def lstAt : Option Cell → Option (List W)
  | some (.lst l) => some l
  | _ => none
@[simp] theorem lstAt_some (l : List W) : lstAt (some (.lst l)) = some l := id rfl
@[simp] theorem listOf_r (S : Sto) (n : Nat) : listOf S (.r n) = lstAt S[n]? := by
  unfold listOf lstAt
  first
    | rfl
    | (generalize S[n]? = o
       cases o with
       | none => rfl
       | some c => cases c <;> rfl)
@[simp] theorem app1_def (Γ : Env') (me : Sto → Out W) (x : W) (S : Sto) : app1 Γ me x S = optS (listOf S x) fun _ => liftE Γ (me S) (app2 Γ x) := id rfl
def appN (Γ : Env') (S : Sto) (n : Nat) (w : W) (l : List W) : SOut := if l.length < sizeLine then .nx Γ (S.set n (.lst (l ++ [w]))) else .bad
@[simp] theorem app2_r (Γ : Env') (n : Nat) (w : W) (S : Sto) : app2 Γ (.r n) w S = optS (lstAt S[n]?) (appN Γ S n w) := by
  unfold app2 mutL
  dsimp only
  cases S[n]? with
  | none => rfl
  | some c =>
    cases c <;> first | rfl | skip
    show optS (appF w _) _ = appN Γ S n w _
    unfold appF appN
    split <;> rfl
@[simp] theorem appN_def (Γ : Env') (S : Sto) (n : Nat) (w : W) (l : List W) : appN Γ S n w l = if l.length < sizeLine then .nx Γ (S.set n (.lst (l ++ [w]))) else .bad := id rfl
theorem rangeD_succ {lo : Int} {n : Nat} : rangeD lo (n + 1) = .int lo :: rangeD (lo + 1) n := by
  unfold rangeD
  rw [List.range_succ_eq_map]
  simp only [List.map_cons, List.map_map]
  congr 1
  · simp
  · apply List.map_congr_left
    intro a _
    simp only [Function.comp_apply, Nat.succ_eq_add_one]
    congr 1
    omega
@[simp] theorem rangeD_zero {lo : Int} : rangeD lo 0 = [] := id rfl
theorem atI_nat' {α : Type} {l : List α} {i : Int} {a : α} (h0 : 0 ≤ i) (h : l[i.toNat]? = some a) : atI l i = some a := by
  have hi := (List.getElem?_eq_some_iff.mp h).1
  unfold atI ixN
  rw [if_pos h0, if_pos (by omega)]
  exact h
theorem small_of {i : Int} (h0 : 0 ≤ i) (h : i < 18446744073709551616) : smallI i = true := by
  unfold smallI
  simp
  omega
theorem sz : sizeLine = 16777216 := sizeLine_eq
/-! ### draw -/
def Bases (bs : List Int) : Prop := ∀ b ∈ bs, 0 < b ∧ b.natAbs.log2 < 9000
def Drawn (bs l : List Int) : Prop := l.length = bs.length ∧ ∀ (i : Nat) (x b : Int), l[i]? = some x → bs[i]? = some b → 0 ≤ x ∧ x < b
abbrev iW (l : List Int) : List W := (l.map D.int).map W.v
def cbA : CB := (.cons (.app (.var 4) (.bin .mod (.bi .int (.var 3)) (.var 6))) (.cons (.set 3 (.bin .fdiv (.var 3) (.var 6))) .nil))
def cbB : CB := (.cons (.set 7 (.bin .mod (.bi .int (.bin .add (.bin .add (.bin .mul (.var 3) (.int 48271)) (.bin .mul (.bin .add (.var 5) (.bin .mul (.int 97) (.var 1))) (.int 69621))) (.int 12345))) (.int 2147483647))) (.cons (.set 8 (.bin .mod (.bi .int (.bin .add (.bin .add (.bin .mul (.var 7) (.var 7)) (.bin .mul (.var 3) (.int 40692))) (.var 5))) (.int 2147483399))) (.cons (.app (.var 4) (.bin .mod (.bi .int (.bin .add (.bin .mul (.var 8) (.int 1000003)) (.bin .fdiv (.var 7) (.int 3)))) (.idx (.var 2) (.var 5)))) .nil)))
def cbDraw : CB := (.cons (.set 3 (.bi .int (.var 0))) (.cons (.set 4 (.lst .nil)) (.cons (.ite (.cmp .ge (.var 3) (.bin .pow (.int 10) (.int 18))) (.cons (.set 3 (.bin .sub (.var 3) (.bin .pow (.int 10) (.int 18)))) (.cons (.fr 6 (.e (.var 2)) cbA) (.cons (.ret (.var 4)) .nil))) .nil) (.cons (.fr 5 (.r1 (.bi .len (.var 2))) cbB) (.cons (.ret (.var 4)) .nil)))))
theorem drawA (T : Tb) (c s : Option W) (bb : List D) : ∀ (bs : List Int) (left : Int) (out : List W) (s6 : Option W), Bases bs → out.length + bs.length < sizeLine →
    ∃ (l : List Int) (left' : Int) (s6' : Option W), Drawn bs l ∧
      forW (lpS (execs T cbA) 6) (.v (.lst bb)) (true, bb.map W.v) (iW bs) [c, s, some (.v (.lst bb)), some (.v (.int left)), some (.r 0), none, s6, none, none] [.lst out]
        = .nx [c, s, some (.v (.lst bb)), some (.v (.int left')), some (.r 0), none, s6', none, none] [.lst (out ++ iW l)]
  | [], left, out, s6, hb, hl => ⟨[], left, s6, ⟨rfl, by simp⟩, by simp⟩
  | b :: bs, left, out, s6, hb, hl => by
    have hb0 := hb b (by simp)
    have hl0 : out.length < sizeLine := by simp at hl; omega
    obtain ⟨l, left', s6', ⟨h1, h2⟩, h3⟩ := drawA T c s bb bs (left / b) (out ++ [.v (.int (left % b))]) (some (.v (.int b))) (fun x hx => hb x (by simp [hx])) (by simp at hl ⊢; omega)
    refine ⟨left % b :: l, left', s6', ⟨by simp [h1], ?_⟩, ?_⟩
    · intro i x y e1 e2
      cases i with
      | zero => simp at e1 e2; subst e1 e2; exact ⟨Int.emod_nonneg _ (by omega), Int.emod_lt_of_pos _ hb0.1⟩
      | succ i => simp at e1 e2; exact h2 i x y e1 e2
    · rw [List.append_assoc] at h3
      refine (forW_cons (Γ' := [c, s, some (.v (.lst bb)), some (.v (.int (left / b))), some (.r 0), none, some (.v (.int b)), none, none]) (S' := [.lst (out ++ [.v (.int (left % b))])]) ?_ (sqOf_l _ _)).trans ?_
      · simp [cbA, hb0.1, hb0.2, hl0]
      · simpa [iW] using h3
theorem drawB (T : Tb) (c : Option W) (sa left : Int) (bs : List Int) (hb : Bases bs) (p : Bool × List W) (w : W) (hw : ∀ S, sqOf S w = some p) : ∀ (n : Nat) (j : Int) (out : List W) (s5 s7 s8 : Option W), 0 ≤ j → j + n = bs.length → out.length + n < sizeLine →
    ∃ (l : List Int) (s5' s7' s8' : Option W), Drawn (bs.drop j.toNat) l ∧
      forW (lpS (execs T cbB) 5) w p ((rangeD j n).map W.v)
        [c, some (.v (.int sa)), some (.v (.lst (bs.map D.int))), some (.v (.int left)), some (.r 0), s5, none, s7, s8] [.lst out] = .nx [c, some (.v (.int sa)), some (.v (.lst (bs.map D.int))), some (.v (.int left)), some (.r 0), s5', none, s7', s8'] [.lst (out ++ iW l)]
  | 0, j, out, s5, s7, s8, h0, hn, hl => ⟨[], s5, s7, s8, ⟨by simp; omega, by simp⟩, by simp⟩
  | n + 1, j, out, s5, s7, s8, h0, hn, hl => by
    have hl0 : out.length < sizeLine := by omega
    have hj : j.toNat < bs.length := by omega
    obtain ⟨b, hbj⟩ : ∃ b, bs[j.toNat]? = some b := ⟨_, List.getElem?_eq_getElem hj⟩
    have hb0 := hb b (List.mem_of_getElem? hbj)
    have hat : atI (iW bs) j = some (.v (.int b)) := atI_nat' h0 (by simp [iW, hbj])
    have hat' : atI (bs.map (W.v ∘ D.int)) j = some (.v (.int b)) := by rw [← List.map_map]; exact hat
    let first := (left * 48271 + (j + 97 * sa) * 69621 + 12345) % 2147483647
    have hf : smallI first = true := small_of (Int.emod_nonneg _ (by decide)) (by have := Int.emod_lt_of_pos (left * 48271 + (j + 97 * sa) * 69621 + 12345) (b := 2147483647) (by decide); show first < _; omega)
    have hf' : smallI ((left * 48271 + (j + 97 * sa) * 69621 + 12345) % 2147483647) = true := hf
    let second := (first * first + left * 40692 + j) % 2147483399
    let x := (second * 1000003 + first / 3) % b
    obtain ⟨l, s5', s7', s8', ⟨h1, h2⟩, h3⟩ := drawB T c sa left bs hb p w hw n (j + 1) (out ++ [.v (.int x)]) (some (.v (.int j))) (some (.v (.int first))) (some (.v (.int second))) (by omega) (by omega) (by simp; omega)
    have ej : (j + 1).toNat = j.toNat + 1 := by omega
    refine ⟨x :: l, s5', s7', s8', ⟨?_, ?_⟩, ?_⟩
    · rw [ej, List.length_drop] at h1
      simp [h1]; omega
    · intro i y z e1 e2
      cases i with
      | zero =>
        simp at e1 e2; rw [hbj] at e2; cases e1; cases e2
        exact ⟨Int.emod_nonneg _ (by omega), Int.emod_lt_of_pos _ hb0.1⟩
      | succ i =>
        simp at e1 e2
        refine h2 i y z e1 ?_
        rw [ej, List.getElem?_drop]
        rw [← e2]; congr 1; omega
    · rw [List.append_assoc] at h3
      rw [rangeD_succ]
      refine (forW_cons (Γ' := [c, some (.v (.int sa)), some (.v (.lst (bs.map D.int))), some (.v (.int left)), some (.r 0), some (.v (.int j)), none, some (.v (.int first)), some (.v (.int second))]) (S' := [.lst (out ++ [.v (.int x)])]) ?_ (hw _)).trans ?_
      · have k1 : smallI 48271 = true := by decide
        have k2 : smallI 97 = true := by decide
        have k3 : smallI 69621 = true := by decide
        have k4 : smallI 40692 = true := by decide
        have k5 : smallI 1000003 = true := by decide
        have k6 : Nat.log2 3 < 9000 := by decide
        simp [cbB, hat', hb0.1, hl0, k1, k2, k3, k4, k5, k6, hf', first, second, x]
      · simpa [iW] using h3
theorem draw_spec (T : Tb) (c sa : Int) (bs : List Int) (hb : Bases bs) (hl : bs.length < 100000) : ∃ l, Drawn bs l ∧ runD T 9 cbDraw [] [.v (.int c), .v (.int sa), .v (.lst (bs.map D.int))] = .ok (.r 0) [.lst (iW l)] := by
  have hz := sz
  by_cases h : 1000000000000000000 ≤ c
  · obtain ⟨l, left', s6', h1, h2⟩ := drawA T (some (.v (.int c))) (some (.v (.int sa))) (bs.map D.int) bs (c - 1000000000000000000) [] none hb (by rw [List.length_nil]; omega)
    refine ⟨l, h1, ?_⟩
    simp only [List.map_map, iW] at h2
    simp [runD_def, cbDraw, h, h2, List.replicate]
  · obtain ⟨l, s5', s7', s8', h1, h2⟩ := drawB T (some (.v (.int c))) sa c bs hb (false, (rangeD 0 bs.length).map W.v) (.v (.tup (rangeD 0 bs.length))) (fun S => sqOf_t S _) bs.length 0 [] none none none (by omega) (by simp) (by rw [List.length_nil]; omega)
    refine ⟨l, by simpa using h1, ?_⟩
    have k1 : -4611686018427387904 ≤ (bs.length : Int) := by omega
    have k2 : (bs.length : Int) < 4611686018427387904 := by omega
    simp only [List.map_map, iW] at h2
    simp [runD_def, cbDraw, h, h2, k1, k2, List.replicate]
/-! ### cell -/
def cbCell : CB := (.cons (.ite (.cmp .lt (.var 1) (.bi .len (.var 0))) (.cons (.ret (.bi .int (.idx (.var 0) (.var 1)))) .nil) .nil) (.cons (.ret (.int 0)) .nil))
theorem cell_spec (T : Tb) (ns : List Int) (k : Nat) : runD T 2 cbCell [] [.v (.scr ns), .v (.int k)] = .ok (.v (.int (ns.getD k 0))) [] := by
  by_cases h : k < ns.length
  · have h' : (k : Int) < ns.length := by omega
    have e : atI ns (k : Int) = some ns[k] := atI_nat' (by omega) (by simp [h])
    simp [runD_def, cbCell, h', e, h]
  · have h' : ¬ (k : Int) < ns.length := by omega
    simp [runD_def, cbCell, h', h]
end NV

namespace NV
open PySem L2
@[simp] theorem isiW_non (T : Tb) (t : Ty) (S : Sto) : isiW T t (.v .non) S = .ok (.v (.bl (tyB t "NoneType"))) S := id rfl
@[simp] theorem isiW_bl (T : Tb) (t : Ty) (b : Bool) (S : Sto) : isiW T t (.v (.bl b)) S = .ok (.v (.bl (tyB t "bool"))) S := id rfl
@[simp] theorem isiW_int (T : Tb) (t : Ty) (b : Int) (S : Sto) : isiW T t (.v (.int b)) S = .ok (.v (.bl (tyB t "int"))) S := id rfl
@[simp] theorem isiW_str (T : Tb) (t : Ty) (b : Str) (S : Sto) : isiW T t (.v (.str b)) S = .ok (.v (.bl (tyB t "str"))) S := id rfl
@[simp] theorem isiW_lst (T : Tb) (t : Ty) (b : List D) (S : Sto) : isiW T t (.v (.lst b)) S = .ok (.v (.bl (tyB t "list"))) S := id rfl
@[simp] theorem isiW_tup (T : Tb) (t : Ty) (b : List D) (S : Sto) : isiW T t (.v (.tup b)) S = .ok (.v (.bl (tyB t "tuple"))) S := id rfl
theorem mem_range {n : Nat} {d : W} (h : d ∈ (rangeD 0 n).map W.v) : ∃ k : Nat, k < n ∧ d = .v (.int k) := by
  unfold rangeD at h
  simp only [List.mem_map, List.mem_range] at h
  obtain ⟨d', ⟨k, hk, rfl⟩, rfl⟩ := h
  exact ⟨k, hk, by simp⟩
/-! ### same -/
def cbSameL (f : Nat) : CB := (.cons (.ite (.not (.e (.frz (.call f (.cons (.idx (.var 0) (.var 2)) (.cons (.idx (.var 1) (.var 2)) .nil)) [])))) (.cons (.ret (.bl false)) .nil) .nil) .nil)
def cbSame (f : Nat) : CB := (.cons (.ite (.cmp .is (.var 1) .non) (.cons (.ret (.cmp .is (.var 0) .non)) .nil) .nil) (.cons (.ite (.cmp .is (.var 1) (.bl true)) (.cons (.ret (.cmp .is (.var 0) (.bl true))) .nil) .nil) (.cons (.ite (.cmp .is (.var 1) (.bl false)) (.cons (.ret (.cmp .is (.var 0) (.bl false))) .nil) .nil) (.cons (.ite (.e (.isi (.var 1) .str)) (.cons (.ret (.andv (.isi (.var 0) .str) (.cmp .eq (.var 0) (.var 1)))) .nil) .nil) (.cons (.ite (.e (.isi (.var 1) .int)) (.cons (.ret (.andv (.isi (.var 0) .int) (.andv (.notv (.isi (.var 0) .bool)) (.cmp .eq (.var 0) (.var 1))))) .nil) .nil) (.cons (.ite (.and (.e (.isi (.var 1) .list)) (.not (.e (.isi (.var 0) .list)))) (.cons (.ret (.bl false)) .nil) .nil) (.cons (.ite (.and (.e (.isi (.var 1) .tuple)) (.not (.e (.isi (.var 0) .tuple)))) (.cons (.ret (.bl false)) .nil) .nil) (.cons (.ite (.cmp .ne (.bi .len (.var 0)) (.bi .len (.var 1))) (.cons (.ret (.bl false)) .nil) .nil) (.cons (.fr 2 (.r1 (.bi .len (.var 1))) (cbSameL f)) (.cons (.ret (.bl true)) .nil))))))))))
@[simp] theorem cmpW_eqS (T : Tb) (x : Str) (S : Sto) : cmpW T .eq (.v (.str x)) (.v (.str x)) S = .ok (.v (.bl true)) S := by
  rw [cmpW_plain T .eq _ _ S rfl rfl]
  show opt (some (eqD (.str x) (.str x))) _ = _
  simp [eqD, eqF]
/-- a flat value is itself -/
theorem same_flat (T : Tb) (f : Nat) {x : D} (h : flatD x = true) : runD T 3 (cbSame f) [] [.v x, .v x] = .ok (.v (.bl true)) [] := by
  cases x with
  | non => simp [runD_def, cbSame, isNon, List.replicate]
  | bl b => cases b <;> simp [runD_def, cbSame, isNon, isBl, List.replicate]
  | int i => simp [runD_def, cbSame, isNon, isBl, tyB, List.replicate]
  | str s => simp [runD_def, cbSame, isNon, isBl, tyB, List.replicate]
  | _ => cases h
theorem same_loop (T : Tb) (f : Nat) (x : D) (l : List D) (hx : x = .lst l ∨ x = .tup l) (hl : ∀ y ∈ l, ∃ S', T.fs f [] [.v y, .v y] = .ok (.v (.bl true)) S') (p : Bool × List W) (w : W) (hw : ∀ S, sqOf S w = some p) :
    ∃ Γ', forW (lpS (execs T (cbSameL f)) 2) w p ((rangeD 0 l.length).map W.v) [some (.v x), some (.v x), none] [] = .nx Γ' [] := by
  obtain ⟨Γ', S', h1, h2, s2, h3⟩ := forW_inv (f := lpS (execs T (cbSameL f)) 2) (w := w) (p := p) (fun Γ S => S = [] ∧ ∃ s2, Γ = [some (.v x), some (.v x), s2]) ((rangeD 0 l.length).map W.v) (Γ := [some (.v x), some (.v x), none]) (S := []) (fun d hd Γ S hI => by
    obtain ⟨rfl, s2, rfl⟩ := hI
    obtain ⟨k, hk, rfl⟩ := mem_range hd
    have e : atI (l.map W.v) (k : Int) = some (.v l[k]) := atI_nat' (by omega) (by simp [hk])
    obtain ⟨S', hf⟩ := hl l[k] (List.getElem_mem hk)
    have hc : callW T f [.v l[k], .v l[k]] [] = .ok (.v (.bl true)) [] := call_v (ds := [l[k], l[k]]) (by simp) hf
    refine ⟨[some (.v x), some (.v x), some (.v (.int k))], [], ?_, ⟨rfl, _, rfl⟩, hw _⟩
    rcases hx with rfl | rfl <;> simp [cbSameL, e, hc]) ⟨rfl, none, rfl⟩
  subst h2
  exact ⟨Γ', h1⟩
theorem same_seq (T : Tb) (f : Nat) (x : D) (l : List D) (hx : x = .lst l ∨ x = .tup l) (hz : l.length < 4611686018427387904) (hl : ∀ y ∈ l, ∃ S', T.fs f [] [.v y, .v y] = .ok (.v (.bl true)) S') : runD T 3 (cbSame f) [] [.v x, .v x] = .ok (.v (.bl true)) [] := by
  obtain ⟨Γ', h⟩ := same_loop T f x l hx hl (false, (rangeD 0 l.length).map W.v) (.v (.tup (rangeD 0 l.length))) (fun S => sqOf_t S _)
  have k1 : -4611686018427387904 ≤ (l.length : Int) := by omega
  have k2 : (l.length : Int) < 4611686018427387904 := by omega
  rcases hx with rfl | rfl <;> simp [runD_def, cbSame, isNon, isBl, tyB, List.replicate, k1, k2, h]
end NV

namespace NV
open PySem L2
/-! ### more equations: sizes, places, settling -/
@[simp] theorem sizeLine_n : sizeLine = 16777216 := sizeLine_eq
theorem atI_nat {α : Type} (l : List α) (n : Nat) : atI l (n : Int) = l[n]? := by
  unfold atI ixN
  rw [if_pos (by omega)]
  by_cases h : n < l.length
  · rw [if_pos (by omega)]; simp
  · rw [if_neg (by omega)]; simp; omega
@[simp] theorem atI_cast {α : Type} (l : List α) (n : Nat) : atI l (n : Int) = l[n]? := atI_nat l n
@[simp] theorem atI_0 {α : Type} (l : List α) : atI l 0 = l[0]? := atI_nat l 0
@[simp] theorem atI_1 {α : Type} (l : List α) : atI l 1 = l[1]? := atI_nat l 1
@[simp] theorem atI_ofNat {α : Type} (l : List α) (n : Nat) : atI l (no_index (OfNat.ofNat n)) = l[(OfNat.ofNat n : Nat)]? := atI_nat l n
theorem atI_last {α : Type} (l : List α) : atI l (-1) = l.getLast? := by
  unfold atI ixN
  rw [if_neg (by decide)]
  cases l with
  | nil => simp
  | cons a r =>
    rw [if_pos (by simp; omega), List.getLast?_eq_getElem?]
    show (a :: r)[((-1 : Int) + ((r.length + 1 : Nat) : Int)).toNat]? = (a :: r)[r.length + 1 - 1]?
    congr 1
    omega
@[simp] theorem atI_neg1 {α : Type} (l : List α) : atI l (-1) = l.getLast? := atI_last l
@[simp] theorem tree_lst (l : List W) : (Cell.lst l).tree = (unV l).map D.lst := id rfl
@[simp] theorem tree_tup (l : List W) : (Cell.tup l).tree = (unV l).map D.tup := id rfl
@[simp] theorem tree_ins (c : Nat) (l : List W) : (Cell.ins c l).tree = (unV l).map (D.ins c) := id rfl
@[simp] theorem unV_app : ∀ (a : List W) (b : List W), unV (a ++ b) = (unV a).bind fun x => (unV b).map (x ++ ·)
  | [], b => by simp [unV]
  | .v d :: a, b => by
    simp only [List.cons_append, unV_v, unV_app a b]
    cases unV a <;> cases unV b <;> simp
  | .r n :: a, b => by simp [unV]
@[simp] theorem unV_map2 {α : Type} (f : α → D) : ∀ l : List α, unV (l.map (fun x => W.v (f x))) = some (l.map f)
  | [] => rfl
  | a :: l => by simp [unV_map2 f l]
@[simp] theorem unV_map3 {α : Type} (f : α → D) (l : List α) : unV (l.map (W.v ∘ f)) = some (l.map f) := unV_map2 f l
@[simp] theorem below_ins (k c : Nat) (l : List W) : (Cell.ins c l).below k = l.all (refB k) := id rfl
@[simp] theorem refB_v (k : Nat) (d : D) : refB k (.v d) = true := id rfl
@[simp] theorem refB_r (k n : Nat) : refB k (.r n) = decide (n < k) := id rfl
theorem all_refB (k : Nat) (l : List D) : (l.map W.v).all (refB k) = true := by simp
@[simp] theorem closed_def (S : Sto) : closed S = S.all (Cell.below S.length) := id rfl
theorem tree_get {c : Cell} (h : c.tree.isSome = true) : c.tree = some (c.tree.getD .non) := by
  cases e : c.tree with
  | none => rw [e] at h; cases h
  | some d => rfl
@[simp] theorem frzK0 (c : Cell) (h : c.tree.isSome = true) : frzW 0 (.r 0) [c] = .ok (.v (c.tree.getD .non)) [] := frz_new (S := []) rfl (tree_get h)
@[simp] theorem frzK1 (a c : Cell) (h0 : closed [a] = true) (h : c.tree.isSome = true) : frzW 1 (.r 1) [a, c] = .ok (.v (c.tree.getD .non)) [a] := frz_new (S := [a]) h0 (tree_get h)
@[simp] theorem frzK2 (a b c : Cell) (h0 : closed [a, b] = true) (h : c.tree.isSome = true) : frzW 2 (.r 2) [a, b, c] = .ok (.v (c.tree.getD .non)) [a, b] := frz_new (S := [a, b]) h0 (tree_get h)
@[simp] theorem frzK3 (a b e c : Cell) (h0 : closed [a, b, e] = true) (h : c.tree.isSome = true) : frzW 3 (.r 3) [a, b, e, c] = .ok (.v (c.tree.getD .non)) [a, b, e] := frz_new (S := [a, b, e]) h0 (tree_get h)
@[simp] theorem frzK4 (a b e f c : Cell) (h0 : closed [a, b, e, f] = true) (h : c.tree.isSome = true) : frzW 4 (.r 4) [a, b, e, f, c] = .ok (.v (c.tree.getD .non)) [a, b, e, f] := frz_new (S := [a, b, e, f]) h0 (tree_get h)
/-! ### what a def gives -/
/-- a settled tree -/
def RV (o : Out W) (d : D) : Prop := ∃ S', o = .ok (.v d) S'
/-- a new list -/
def RL (o : Out W) (l : List D) : Prop := ∃ n S', o = .ok (.r n) S' ∧ S'[n]? = some (.lst (l.map W.v))
/-- a new object -/
def RI (o : Out W) (c : Nat) (l : List D) : Prop := ∃ n S', o = .ok (.r n) S' ∧ S'[n]? = some (.ins c (l.map W.v))
theorem RV.mk' {d : D} {S : Sto} : RV (.ok (.v d) S) d := ⟨S, rfl⟩
theorem RL.mk' {n : Nat} {l : List D} {S : Sto} (h : S[n]? = some (.lst (l.map W.v))) : RL (.ok (.r n) S) l := ⟨n, S, rfl, h⟩
theorem RV.callW {T : Tb} {f : Nat} {ds : List D} {d : D} (h : RV (T.fs f [] (ds.map W.v)) d) (S : Sto) : callW T f (ds.map W.v) S = .ok (.v d) S := by
  obtain ⟨S', h⟩ := h
  exact call_v (ds := ds) (by simp) h
theorem call_L' {T : Tb} {f n : Nat} {ds l : List D} {S S' : Sto} {c : Cell} (h : T.fs f [] (ds.map W.v) = .ok (.r n) S') (h1 : S'[n]? = some c) (h2 : c.tree.isSome = true) : NV.callW T f (ds.map W.v) S = .ok (.r S.length) (S ++ [c]) := by
  unfold NV.callW
  rw [unV_mapv, h]
  show emb S (.r n) S' = _
  unfold emb
  dsimp only
  rw [h1]
  dsimp only
  rw [if_pos h2]
  rfl
theorem RL.callW {T : Tb} {f : Nat} {ds l : List D} (h : RL (T.fs f [] (ds.map W.v)) l) (S : Sto) : callW T f (ds.map W.v) S = .ok (.r S.length) (S ++ [.lst (l.map W.v)]) := by
  obtain ⟨n, S', h, h1⟩ := h
  exact call_L' (l := l) h h1 (by simp)
theorem RI.callW {T : Tb} {f c : Nat} {ds l : List D} (h : RI (T.fs f [] (ds.map W.v)) c l) (S : Sto) : callW T f (ds.map W.v) S = .ok (.r S.length) (S ++ [.ins c (l.map W.v)]) := by
  obtain ⟨n, S', h, h1⟩ := h
  exact call_L' (l := l) h h1 (by simp)
/-! ### comprehensions -/
theorem lcRun_fm {f : W → Out (Option W)} {g : D → Option D} : ∀ {l : List D}, (∀ d ∈ l, f (.v d) = .ok ((g d).map W.v) []) → lcRun f (l.map W.v) = .ok ((l.filterMap g).map W.v) []
  | [], _ => rfl
  | d :: l, h => by
    simp only [List.map_cons]
    unfold lcRun
    rw [h d (by simp)]
    have ih := lcRun_fm (f := f) (g := g) (l := l) fun d hd => h d (by simp [hd])
    cases e : g d with
    | none =>
      simp only [Option.map_none]
      rw [ih, List.filterMap_cons_none e]
    | some x =>
      simp only [Option.map_some]
      rw [ih, List.filterMap_cons_some e]
      rfl
theorem lcRun_mapD {f : W → Out (Option W)} {g : D → D} {l : List D} (h : ∀ d ∈ l, f (.v d) = .ok (some (.v (g d))) []) : lcRun f (l.map W.v) = .ok ((l.map g).map W.v) [] := by
  have := lcRun_fm (f := f) (g := fun d => some (g d)) (l := l) fun d hd => by rw [h d hd]; rfl
  rw [this]
  congr 2
  induction l with
  | nil => rfl
  | cons a l ih => simp
theorem needC_pos {α : Type} {c : Prop} {i : Decidable c} {r : Out α} (h : c) : @need α c i r = r := if_pos h
theorem fm_filter {α β : Type} (p : α → Bool) (g : α → β) : ∀ l : List α, l.filterMap (fun d => if p d then some (g d) else none) = (l.filter p).map g
  | [] => rfl
  | a :: l => by
    have := fm_filter p g l
    by_cases e : p a <;> simp [e, this]
theorem someK_same (S : Sto) (w : W) : someK S w S = .ok (some w) [] := by
  unfold someK need
  exact if_pos rfl
/-- [e for x in l] -/
theorem lc_mapD {fe : Env' → Sto → Out W} {Γ : Env'} {i : Nat} {S : Sto} {w : W} {l : List D} {g : D → D} (hw : seqOf S w = some (l.map W.v)) (h : ∀ d ∈ l, fe (Γ.set i (some (.v d))) S = .ok (.v (g d)) S) (hz : l.length ≤ 16777216) : lcE0 fe Γ i w S = .ok (.r S.length) (S ++ [.lst ((l.map g).map W.v)]) := by
  unfold lcE0
  rw [hw, opt_some]
  unfold lcE
  rw [lcRun_mapD (g := g) fun d hd => by
    show (fe (Γ.set i (some (.v d))) S).bind (someK S) = _
    rw [h d hd, Out.bind_ok]
    exact someK_same _ _]
  rw [Out.bind_ok]
  unfold lcK
  rw [List.length_map]
  exact need_pos (by rw [sizeLine_n]; exact hz)
/-- [e for x in l if t] -/
theorem lc_filterD {ft : Env' → Sto → Out Bool} {fe : Env' → Sto → Out W} {Γ : Env'} {i : Nat} {S : Sto} {w : W} {l : List D} {p : D → Bool} {g : D → D} (hw : seqOf S w = some (l.map W.v)) (ht : ∀ d ∈ l, ft (Γ.set i (some (.v d))) S = .ok (p d) S) (h : ∀ d ∈ l, p d = true → fe (Γ.set i (some (.v d))) S = .ok (.v (g d)) S) (hz : l.length ≤ 16777216) : lcE1 ft fe Γ i w S = .ok (.r S.length) (S ++ [.lst (((l.filter p).map g).map W.v)]) := by
  unfold lcE1
  rw [hw, opt_some]
  unfold lcE
  rw [lcRun_fm (g := fun d => if p d then some (g d) else none) fun d hd => by
    show (ft (Γ.set i (some (.v d))) S).bind (lccK (fe (Γ.set i (some (.v d)))) S) = _
    rw [ht d hd, Out.bind_ok]
    unfold lccK
    rw [needC_pos rfl]
    cases e : p d with
    | false => simp
    | true =>
      simp only [if_true]
      show (fe (Γ.set i (some (.v d))) S).bind (someK S) = _
      rw [h d hd e, Out.bind_ok]
      exact someK_same _ _]
  rw [Out.bind_ok]
  have e := fm_filter p g l
  unfold lcK
  rw [List.length_map, e]
  exact need_pos (by rw [sizeLine_n]; exact hz)
/-! ### loops as functions of a state -/
/-- a turn's end: go on, break, return -/
inductive Stp (α : Type) where
  | nx (a : α)
  | bk (a : α)
  | rt (w : W) (S : Sto)
/-- the loop's end -/
def loopR {α : Type} (g : α → D → Stp α) : α → List D → Stp α
  | a, [] => .nx a
  | a, d :: l => match g a d with
    | .nx a' => loopR g a' l
    | .bk a' => .nx a'
    | .rt w S => .rt w S
def Stp.out {α : Type} (e : α → Env') (s : α → Sto) : Stp α → SOut
  | .nx a => .nx (e a) (s a)
  | .bk a => .bk (e a) (s a)
  | .rt w S => .rt w S
theorem forW_loop {α : Type} {f : W → Env' → Sto → SOut} {w : W} {p : Bool × List W} (e : α → Env') (s : α → Sto) (g : α → D → Stp α) (P : α → List D → Prop) :
    ∀ (l : List D) (a : α), P a l → (∀ a d l, P a (d :: l) → f (.v d) (e a) (s a) = (g a d).out e s ∧ ∀ a', g a d = .nx a' → P a' l ∧ sqOf (s a') w = some p) → forW f w p (l.map W.v) (e a) (s a) = (loopR g a l).out e s
  | [], a, _, _ => rfl
  | d :: l, a, hP, h => by
    obtain ⟨h1, h2⟩ := h a d l hP
    simp only [List.map_cons]
    rw [forW, h1]
    unfold loopR
    cases hg : g a d with
    | nx a' =>
      obtain ⟨h3, h4⟩ := h2 a' hg
      dsimp only [Stp.out]
      rw [needS_pos h4, forW_loop e s g P l a' h3 h]
      rfl
    | bk a' => rfl
    | rt w S => rfl
end NV

namespace NV
open PySem L2
/-! ### texts as lists of code points -/
abbrev cs (s : Str) : List Nat := s.cps.toList
def mkS (l : List Nat) : Str := ⟨l.toArray⟩
@[simp] theorem cs_mkS (l : List Nat) : (mkS l).cps.toList = l := by simp [mkS]
theorem str_ext {a b : Str} (h : cs a = cs b) : a = b := by
  cases a; cases b
  congr 1
  exact Array.toList_inj.mp h
@[simp] theorem mkS_cs (s : Str) : mkS s.cps.toList = s := str_ext (by simp)
theorem cs_app (a b : Str) : cs (a ++ b) = cs a ++ cs b := by
  show (a.cps ++ b.cps).toList = _
  simp
@[simp] theorem mkS_app (a b : List Nat) : mkS a ++ mkS b = mkS (a ++ b) := str_ext (by rw [cs_app]; simp)
theorem len_cs (s : Str) : s.length = (cs s).length := by simp [Str.length]
@[simp] theorem len_mkS (l : List Nat) : (mkS l).length = l.length := by rw [len_cs]; simp
theorem mkS_inj {a b : List Nat} (h : mkS a = mkS b) : a = b := by
  have := congrArg cs h
  simpa using this
theorem chr1_mkS (c : Nat) : chr1 c = mkS [c] := rfl
theorem cutS_mkS (l : List Nat) (lo hi : Option Int) : cutS (mkS l) lo hi = mkS (cutW l lo hi) := by
  unfold cutS cutW
  rw [len_mkS]
  simp [mkS]
def letters : List Nat := (List.range 26).map (97 + ·)
theorem lett_eq : ("abcdefghijklmnopqrstuvwxyz" : Str) = mkS letters := by decide +kernel
theorem lett_at {k : Nat} (h : k < 26) : letters[k]? = some (97 + k) := by
  unfold letters
  simp [h]
/-! ### words -/
/-- turns of the first loop: what is left, the size -/
def wl : Nat → Int → Nat → Int × Nat
  | 0, l, s => (l, s)
  | k + 1, l, s => if l < 26 ^ s then (l, s) else wl k (l - 26 ^ s) (s + 1)
def digs : Nat → Int → List Nat
  | 0, _ => []
  | k + 1, l => (97 + (l % 26).toNat) :: digs k (l / 26)
def wordL (n : Int) : List Nat := digs (wl 7 (n % 217180147158) 1).2 (wl 7 (n % 217180147158) 1).1
def wordOf (n : Int) : Str := mkS (wordL n)
theorem digs_len : ∀ (k : Nat) (l : Int), (digs k l).length = k
  | 0, _ => rfl
  | k + 1, l => by simp [digs, digs_len k]
theorem digs_let : ∀ (k : Nat) (l : Int), ∀ c ∈ digs k l, 97 ≤ c ∧ c ≤ 122
  | 0, _, c, h => by simp [digs] at h
  | k + 1, l, c, h => by
    simp only [digs, List.mem_cons] at h
    rcases h with rfl | h
    · have h1 := Int.emod_nonneg l (b := 26) (by decide)
      have h2 := Int.emod_lt_of_pos l (b := 26) (by decide)
      omega
    · exact digs_let k _ c h
theorem digs_inj : ∀ (k : Nat) (a b : Int), 0 ≤ a → a < 26 ^ k → 0 ≤ b → b < 26 ^ k → digs k a = digs k b → a = b
  | 0, a, b, h1, h2, h3, h4, _ => by simp at h2 h4; omega
  | k + 1, a, b, h1, h2, h3, h4, h => by
    simp only [digs, List.cons.injEq] at h
    have p1 := Int.emod_nonneg a (b := 26) (by decide)
    have p2 := Int.emod_nonneg b (b := 26) (by decide)
    have e := digs_inj k (a / 26) (b / 26) (by omega) (by rw [Int.pow_succ] at h2; omega) (by omega) (by rw [Int.pow_succ] at h4; omega) h.2
    omega
/-- 26 + .. + 26 ^ (s - 1) -/
def off : Nat → Int
  | 0 => -1
  | s + 1 => off s + 26 ^ s
theorem wl_spec : ∀ (k : Nat) (l : Int) (s : Nat), 0 ≤ l → l + off s < off (s + k + 1) → 0 ≤ (wl k l s).1 ∧ (wl k l s).1 < 26 ^ (wl k l s).2 ∧ s ≤ (wl k l s).2 ∧ (wl k l s).2 ≤ s + k ∧ (wl k l s).1 + off (wl k l s).2 = l + off s
  | 0, l, s, h0, h => by
    simp only [Nat.add_zero, off] at h
    exact ⟨h0, by show l < 26 ^ s; omega, Nat.le_refl _, by simp [wl], rfl⟩
  | k + 1, l, s, h0, h => by
    unfold wl
    by_cases c : l < 26 ^ s
    · rw [if_pos c]
      exact ⟨h0, c, Nat.le_refl _, by omega, rfl⟩
    · rw [if_neg c]
      have e : l - 26 ^ s + off (s + 1) = l + off s := by simp only [off]; omega
      obtain ⟨a1, a2, a3, a4, a5⟩ := wl_spec k (l - 26 ^ s) (s + 1) (by omega) (by rw [e]; rw [show s + 1 + k + 1 = s + (k + 1) + 1 from by omega]; exact h)
      exact ⟨a1, a2, by omega, by omega, by rw [a5, e]⟩
theorem off9 : off 9 = 217180147158 := by decide
theorem word_spec0 (n : Int) : 0 ≤ (wl 7 (n % 217180147158) 1).1 ∧ (wl 7 (n % 217180147158) 1).1 < 26 ^ (wl 7 (n % 217180147158) 1).2 ∧ 1 ≤ (wl 7 (n % 217180147158) 1).2 ∧ (wl 7 (n % 217180147158) 1).2 ≤ 8 ∧ (wl 7 (n % 217180147158) 1).1 + off (wl 7 (n % 217180147158) 1).2 = n % 217180147158 := by
  have h1 := Int.emod_nonneg n (b := 217180147158) (by decide)
  have h2 := Int.emod_lt_of_pos n (b := 217180147158) (by decide)
  have o1 : off 1 = 0 := by decide
  obtain ⟨a1, a2, a3, a4, a5⟩ := wl_spec 7 (n % 217180147158) 1 h1 (by rw [o1, off9]; omega)
  exact ⟨a1, a2, a3, a4, by rw [a5, o1]; omega⟩
/-- one to eight letters -/
def isNm (s : Str) : Prop := 1 ≤ (cs s).length ∧ (cs s).length ≤ 8 ∧ ∀ c ∈ cs s, 97 ≤ c ∧ c ≤ 122
theorem word_nm (n : Int) : isNm (wordOf n) := by
  obtain ⟨a1, a2, a3, a4, a5⟩ := word_spec0 n
  unfold isNm wordOf
  rw [show cs (mkS (wordL n)) = wordL n from cs_mkS _]
  unfold wordL
  rw [digs_len]
  exact ⟨a3, a4, digs_let _ _⟩
theorem word_inj {a b : Int} (h : wordOf a = wordOf b) : a % 217180147158 = b % 217180147158 := by
  obtain ⟨a1, a2, a3, a4, a5⟩ := word_spec0 a
  obtain ⟨b1, b2, b3, b4, b5⟩ := word_spec0 b
  have e := mkS_inj h
  unfold wordL at e
  have el : (wl 7 (a % 217180147158) 1).2 = (wl 7 (b % 217180147158) 1).2 := by
    have := congrArg List.length e
    simpa [digs_len] using this
  rw [el] at e a2 a5
  have := digs_inj _ _ _ a1 a2 b1 b2 e
  omega
/-! a list with more different members than another is not within it -/
theorem nodup_len {α : Type} [DecidableEq α] : ∀ {l m : List α}, l.Nodup → (∀ x ∈ l, x ∈ m) → l.length ≤ m.length
  | [], m, _, _ => by simp
  | a :: l, m, h, hs => by
    have h' := List.nodup_cons.mp h
    have ha : a ∈ m := hs a (by simp)
    have := nodup_len (l := l) (m := m.erase a) h'.2 (fun x hx => (List.mem_erase_of_ne (fun e => h'.1 (by rw [← e]; exact hx))).mpr (hs x (by simp [hx])))
    rw [List.length_erase_of_mem ha] at this
    have : 0 < m.length := List.length_pos_of_mem ha
    simp only [List.length_cons]
    omega
/-- the search for another word -/
def seek (ws : List Str) : Nat → Int → Str → Str
  | 0, _, w => w
  | k + 1, n, w => if w ∈ ws then seek ws k (n + 1) (wordOf (n + 1)) else w
theorem seek_out {ws : List Str} : ∀ (k : Nat) (n : Int) (w : Str), w ∉ ws → seek ws k n w = w
  | 0, _, _, _ => rfl
  | k + 1, n, w, h => by simp [seek, h]
theorem seek_in {ws : List Str} : ∀ (k : Nat) (n : Int) (w : Str), seek ws k n w ∈ ws → w ∈ ws ∧ ∀ j : Nat, 1 ≤ j → j ≤ k → wordOf (n + j) ∈ ws
  | 0, n, w, h => ⟨h, fun j h1 h2 => by omega⟩
  | k + 1, n, w, h => by
    by_cases c : w ∈ ws
    · simp only [seek, c, if_true] at h
      obtain ⟨h1, h2⟩ := seek_in k (n + 1) _ h
      refine ⟨c, fun j a b => ?_⟩
      by_cases e : j = 1
      · subst e; exact h1
      · have := h2 (j - 1) (by omega) (by omega)
        rw [show n + 1 + ((j - 1 : Nat) : Int) = n + j from by omega] at this
        exact this
    · rw [seek_out _ _ _ c] at h
      exact absurd h c
theorem seek_new {ws : List Str} (n : Int) (w : Str) (h : ws.length ≤ 11) : seek ws 12 n w ∉ ws := by
  intro hm
  obtain ⟨_, h2⟩ := seek_in 12 n w hm
  have hn : ((List.range 12).map fun j : Nat => wordOf (n + (j + 1 : Nat))).Nodup := by
    rw [List.Nodup, List.pairwise_map]
    refine List.Pairwise.imp_of_mem ?_ (List.nodup_range (n := 12))
    intro a b ha hb hab e
    have := word_inj e
    have ha := List.mem_range.mp ha
    have hb := List.mem_range.mp hb
    omega
  have := nodup_len hn (m := ws) (fun x hx => by
    obtain ⟨j, hj, rfl⟩ := List.mem_map.mp hx
    have := List.mem_range.mp hj
    exact h2 (j + 1) (by omega) (by omega))
  simp at this
  omega
theorem seek_nm {ws : List Str} : ∀ (k : Nat) (n : Int) (w : Str), isNm w → isNm (seek ws k n w)
  | 0, _, _, h => h
  | k + 1, n, w, h => by
    unfold seek
    split
    · exact seek_nm k _ _ (word_nm _)
    · exact h
end NV

namespace NV
open PySem L2
theorem forW_invL {f : W → Env' → Sto → SOut} {w : W} {p : Bool × List W} (I : List D → Env' → Sto → Prop) : ∀ (l : List D) {Γ : Env'} {S : Sto}, I l Γ S → (∀ d l Γ S, I (d :: l) Γ S → ∃ Γ' S', f (.v d) Γ S = .nx Γ' S' ∧ I l Γ' S' ∧ sqOf S' w = some p) → ∃ Γ' S', forW f w p (l.map W.v) Γ S = .nx Γ' S' ∧ I [] Γ' S'
  | [], Γ, S, h, _ => ⟨Γ, S, rfl, h⟩
  | d :: l, Γ, S, h, hs => by
    obtain ⟨Γ', S', h1, h2, h3⟩ := hs d l Γ S h
    obtain ⟨Γ2, S2, h4, h5⟩ := forW_invL I l h2 hs
    exact ⟨Γ2, S2, (forW_cons h1 h3).trans h4, h5⟩
@[simp] theorem idxW_s (z : Str) (i : Int) (S : Sto) : idxW (.v (.str z)) (.v (.int i)) S = need (z.length ≤ sizeLine) (opt (atI z.cps.toList i) fun c => okD S (.str (chr1 c))) := id rfl
@[simp] theorem sliW_s (z : Str) (lo hi : Option Int) (S : Sto) : sliW (.v (.str z)) lo hi S = need (z.length ≤ sizeLine) (okD S (.str (cutS z lo hi))) := id rfl
@[simp] theorem sliW_l (l : List D) (lo hi : Option Int) (S : Sto) : sliW (.v (.lst l)) lo hi S = .ok (.r S.length) (S ++ [.lst (cutW (l.map W.v) lo hi)]) := id rfl
@[simp] theorem slK_def (ml mh : Sto → Out (Option Int)) (x : W) (S : Sto) : slK ml mh x S = (ml S).bind (slK1 mh x) := id rfl
@[simp] theorem slK1_def (mh : Sto → Out (Option Int)) (x : W) (lo : Option Int) (S : Sto) : slK1 mh x lo S = (mh S).bind (slK2 x lo) := id rfl
@[simp] theorem slK2_def (x : W) (lo hi : Option Int) (S : Sto) : slK2 x lo hi S = sliW x lo hi S := id rfl
@[simp] theorem binD_addS (i j : Str) : binD .add (.str i) (.str j) = if i.length + j.length ≤ sizeLine then some (.str (i ++ j)) else none := id rfl
@[simp] theorem biW_lenStr (T : Tb) (z : Str) (S : Sto) : biW T .len (.v (.str z)) S = need (z.length ≤ sizeLine) (okD S (.int z.length)) := id rfl
@[simp] theorem biW_strS (T : Tb) (z : Str) (S : Sto) : biW T .str (.v (.str z)) S = .ok (.v (.str z)) S := id rfl
theorem cutW_take {α : Type} (l : List α) {k : Int} (h : 0 ≤ k) : cutW l none (some k) = l.take k.toNat := by
  unfold cutW
  simp only [HT.sIx]
  rw [if_neg (by omega)]
  simp [List.take_take]
theorem cutW_drop {α : Type} (l : List α) {k : Int} (h : 0 ≤ k) : cutW l (some k) none = l.drop k.toNat := by
  unfold cutW
  simp only [HT.sIx]
  rw [if_neg (by omega)]
  by_cases c : k.toNat ≤ l.length
  · rw [Nat.min_eq_left c, List.take_of_length_le (by simp)]
  · rw [Nat.min_eq_right (by omega)]
    simp
    omega
@[simp] theorem binW_ll (T : Tb) (op : BO) (l : List D) (y : W) (S : Sto) : binW T op (.v (.lst l)) y S = binL op (l.map W.v) y S := id rfl
@[simp] theorem binL_add (l : List W) (m : List D) (S : Sto) : binL .add l (.v (.lst m)) S = need (l.length + (m.map W.v).length ≤ sizeLine) (.ok (.r S.length) (S ++ [.lst (l ++ m.map W.v)])) := id rfl
@[simp] theorem binL_mul (l : List W) (k : Int) (S : Sto) : binL .mul l (.v (.int k)) S = need (-(2 ^ 63) ≤ k ∧ k < 2 ^ 63 ∧ l.length * k.toNat ≤ sizeLine) (.ok (.r S.length) (S ++ [.lst (List.replicate k.toNat l).flatten])) := id rfl
theorem atI_int {α : Type} (l : List α) {i : Int} (h : 0 ≤ i) : atI l i = l[i.toNat]? := by
  have := atI_nat l i.toNat
  rwa [Int.toNat_of_nonneg h] at this
theorem flat1 {α : Type} (n : Nat) (a : α) : (List.replicate n [a]).flatten = List.replicate n a := by
  induction n with
  | zero => rfl
  | succ n ih => simp [List.replicate_succ, ih]
@[simp] theorem look_r0 (S : Sto) (n : Nat) (l : List D) (h : S[n]? = some (.lst (l.map W.v))) : look S (.r n) = some (.lst l) := by
  unfold look rd
  rw [h]
  have key : ∀ l : List D, rds S 3 (l.map W.v) = some l := fun l => by
    induction l with
    | nil => simp [rds]
    | cons a r ih => simp [rds, rd, ih]
  simp [key]
/-- word: 0=number 1=letters 2=left 3=size 4=room 5=k 6=word_here -/
def cb_word_l1 : CB := (.cons (.ite (.cmp .lt (.var 2) (.var 4)) (.cons .brk .nil) .nil) (.cons (.set 2 (.bin .sub (.var 2) (.var 4))) (.cons (.set 4 (.bin .mul (.var 4) (.int 26))) (.cons (.set 3 (.bin .add (.var 3) (.int 1))) .nil))))
def cb_word_l2 : CB := (.cons (.set 6 (.bin .add (.var 6) (.idx (.var 1) (.bin .mod (.bi .int (.var 2)) (.int 26))))) (.cons (.set 2 (.bin .fdiv (.var 2) (.int 26))) .nil))
def cb_word : CB := (.cons (.set 1 (.str "abcdefghijklmnopqrstuvwxyz")) (.cons (.set 2 (.bin .mod (.bi .int (.var 0)) (.int 217180147158))) (.cons (.set 3 (.int 1)) (.cons (.set 4 (.int 26)) (.cons (.fr 5 (.r1 (.int 7)) cb_word_l1) (.cons (.set 6 (.str "")) (.cons (.fr 5 (.r1 (.var 3)) cb_word_l2) (.cons (.ret (.var 6)) .nil))))))))
/-- names: 0=cell_here 1=salt 2=many 3=letters 4=got 5=words 6=k 7=number 8=word_here 9=turn 10=stem 11=place -/
def cb_names_l1 (f_word : Nat) : CB := (.cons (.ite (.cmp .isin (.var 8) (.var 5)) (.cons (.set 7 (.bin .add (.var 7) (.int 1))) (.cons (.set 8 (.frz (.call f_word (.cons (.var 7) .nil) []))) .nil)) .nil) .nil)
def cb_names_l2 (f_word : Nat) : CB := (.cons (.set 7 (.idx (.var 4) (.bin .add (.int 3) (.var 6)))) (.cons (.set 8 (.frz (.call f_word (.cons (.var 7) .nil) []))) (.cons (.ite (.cmp .eq (.idx (.var 4) (.int 0)) (.int 1)) (.cons (.set 10 (.frz (.sli (.bin .add (.frz (.call f_word (.cons (.idx (.var 4) (.int 3)) .nil) [])) (.str "abcdefgh")) .no (.so (.bin .add (.int 2) (.idx (.var 4) (.int 1))))))) (.cons (.set 11 (.bin .mod (.bi .int (.idx (.var 4) (.int 2))) (.bi .len (.var 10)))) (.cons (.set 8 (.frz (.bin .add (.frz (.bin .add (.frz (.sli (.var 10) .no (.so (.var 11)))) (.idx (.var 3) (.bin .mod (.bi .int (.bin .add (.bin .fdiv (.idx (.var 4) (.int 3)) (.int 5)) (.bin .mul (.int 7) (.var 6)))) (.int 26))))) (.frz (.sli (.var 10) (.so (.bin .add (.var 11) (.int 1))) .no))))) .nil))) .nil) (.cons (.fr 9 (.r1 (.int 12)) (cb_names_l1 f_word )) (.cons (.app (.var 5) (.var 8)) .nil)))))
def cb_names (f_draw f_word : Nat) : CB := (.cons (.set 3 (.str "abcdefghijklmnopqrstuvwxyz")) (.cons (.set 4 (.frz (.call f_draw (.cons (.var 0) (.cons (.var 1) (.cons (.frz (.bin .add (.frz (.lst (.cons (.int 2) (.cons (.int 7) (.cons (.int 8) .nil))))) (.frz (.bin .mul (.frz (.lst (.cons (.int 217180147158) .nil))) (.var 2))))) .nil))) []))) (.cons (.set 5 (.lst .nil)) (.cons (.fr 6 (.r1 (.var 2)) (cb_names_l2 f_word )) (.cons (.ret (.var 5)) .nil)))))
/-- spots: 0=neighbours 1=out 2=name 3=one -/
def cb_spots_l1 : CB := (.cons (.set 1 (.frz (.bin .add (.var 1) (.frz (.lst (.cons (.frz (.tup (.cons (.var 2) (.cons (.str "copy") .nil)))) (.cons (.frz (.tup (.cons (.var 2) (.cons (.str "set") .nil)))) .nil))))))) .nil)
def cb_spots_e1 : CE := (.bi .str (.var 3))
def cb_spots : CB := (.cons (.set 1 (.frz (.lst .nil))) (.cons (.fr 2 (.e (.frz (.bi .sorted (.frz (.lc cb_spots_e1 3 (.e (.var 0))))))) cb_spots_l1) (.cons (.ret (.var 1)) .nil)))
theorem lett_len : letters.length = 26 := by decide
theorem word_l1 (T : Tb) (a b : Option W) (p : Bool × List W) (w : W) (hw : ∀ S, sqOf S w = some p) : ∀ (l : List D) (left : Int) (size : Nat) (s5 : Option W), ∃ s5', forW (lpS (execs T cb_word_l1) 5) w p (l.map W.v)
    [a, b, some (.v (.int left)), some (.v (.int size)), some (.v (.int (26 ^ size))), s5, none] [] = .nx [a, b, some (.v (.int (wl l.length left size).1)), some (.v (.int (wl l.length left size).2)), some (.v (.int (26 ^ (wl l.length left size).2))), s5', none] []
  | [], left, size, s5 => ⟨s5, rfl⟩
  | d :: l, left, size, s5 => by
    by_cases c : left < 26 ^ size
    · refine ⟨some (.v d), ?_⟩
      simp only [List.map_cons, List.length_cons, wl, c, if_true]
      rw [forW]
      simp [cb_word_l1, c]
    · obtain ⟨s5', h⟩ := word_l1 T a b p w hw l (left - 26 ^ size) (size + 1) (some (.v d))
      refine ⟨s5', ?_⟩
      simp only [List.map_cons, List.length_cons, wl, c, if_false]
      refine (forW_cons (Γ' := [a, b, some (.v (.int (left - 26 ^ size))), some (.v (.int (size + 1 : Nat))), some (.v (.int (26 ^ (size + 1)))), some (.v d), none]) (S' := []) ?_ (hw _)).trans h
      have k1 : smallI 26 = true := by decide
      simp [cb_word_l1, c, k1, Int.pow_succ]
theorem word_l2 (T : Tb) (a c4 : Option W) (sz : Option W) (p : Bool × List W) (w : W) (hw : ∀ S, sqOf S w = some p) : ∀ (l : List D) (left : Int) (s5 : Option W) (acc : List Nat), acc.length + l.length ≤ 100 → ∃ left' s5', forW (lpS (execs T cb_word_l2) 5) w p (l.map W.v)
    [a, some (.v (.str (mkS letters))), some (.v (.int left)), sz, c4, s5, some (.v (.str (mkS acc)))] [] = .nx [a, some (.v (.str (mkS letters))), some (.v (.int left')), sz, c4, s5', some (.v (.str (mkS (acc ++ digs l.length left))))] []
  | [], left, s5, acc, _ => ⟨left, s5, by simp [digs]⟩
  | d :: l, left, s5, acc, hl => by
    simp only [List.length_cons] at hl
    obtain ⟨left', s5', h⟩ := word_l2 T a c4 sz p w hw l (left / 26) (some (.v d)) (acc ++ [97 + (left % 26).toNat]) (by simp; omega)
    refine ⟨left', s5', ?_⟩
    simp only [List.map_cons, List.length_cons, digs]
    rw [List.append_assoc] at h
    refine (forW_cons (Γ' := [a, some (.v (.str (mkS letters))), some (.v (.int (left / 26))), sz, c4, some (.v d), some (.v (.str (mkS (acc ++ [97 + (left % 26).toNat]))))]) (S' := []) ?_ (hw _)).trans h
    have p1 := Int.emod_nonneg left (b := 26) (by decide)
    have p2 := Int.emod_lt_of_pos left (b := 26) (by decide)
    have hat : atI letters (left % 26) = some (97 + (left % 26).toNat) := by
      rw [atI_int _ p1, lett_at (by omega)]
    have k6 : Nat.log2 26 < 9000 := by decide
    have hl1 : acc.length + 1 ≤ 16777216 := by omega
    simp [cb_word_l2, hat, lett_len, chr1_mkS, k6, hl1]
theorem word_spec (T : Tb) (n : Int) : runD T 7 cb_word [] [.v (.int n)] = .ok (.v (.str (wordOf n))) [] := by
  obtain ⟨s5, h1⟩ := word_l1 T (some (.v (.int n))) (some (.v (.str (mkS letters)))) (false, (rangeD 0 7).map W.v) (.v (.tup (rangeD 0 7))) (fun S => sqOf_t S _) (rangeD 0 7) (n % 217180147158) 1 none
  have hr : (rangeD 0 7).length = 7 := rfl
  rw [hr] at h1
  have e1 : ((26 : Int) ^ 1) = 26 := rfl
  have e2 : ((1 : Nat) : Int) = 1 := rfl
  rw [e1, e2] at h1
  obtain ⟨a1, a2, a3, a4, a5⟩ := word_spec0 n
  obtain ⟨left', s5', h2⟩ := word_l2 T (some (.v (.int n))) (some (.v (.int (26 ^ (wl 7 (n % 217180147158) 1).2)))) (some (.v (.int (wl 7 (n % 217180147158) 1).2))) (false, (rangeD 0 (wl 7 (n % 217180147158) 1).2).map W.v) (.v (.tup (rangeD 0 (wl 7 (n % 217180147158) 1).2))) (fun S => sqOf_t S _) (rangeD 0 (wl 7 (n % 217180147158) 1).2) (wl 7 (n % 217180147158) 1).1 s5 [] (by simp [rangeD]; omega)
  rw [show (rangeD 0 (wl 7 (n % 217180147158) 1).2).length = (wl 7 (n % 217180147158) 1).2 from by simp [rangeD]] at h2
  rw [show ([] : List Nat) ++ digs (wl 7 (n % 217180147158) 1).2 (wl 7 (n % 217180147158) 1).1 = wordL n from rfl] at h2
  unfold wordOf
  generalize wl 7 (n % 217180147158) 1 = q at *
  have k1 : -4611686018427387904 ≤ (q.2 : Int) := by omega
  have k2 : (q.2 : Int) < 4611686018427387904 := by omega
  have e0 : ("" : Str) = mkS [] := rfl
  simp [runD_def, cb_word, lett_eq, e0, List.replicate, h1, h2, k1, k2]

/-! ### what the law's helpers are asked for -/
def HDraw (T : Tb) (f : Nat) : Prop := ∀ (c sa : Int) (bs : List Int), Bases bs → bs.length < 100000 → ∃ l, Drawn bs l ∧ RL (T.fs f [] [.v (.int c), .v (.int sa), .v (.lst (bs.map D.int))]) (l.map D.int)
def HWord (T : Tb) (f : Nat) : Prop := ∀ n : Int, RV (T.fs f [] [.v (.int n)]) (.str (wordOf n))
theorem HWord.call {T : Tb} {f : Nat} (h : HWord T f) (n : Int) (S : Sto) : callW T f [.v (.int n)] S = .ok (.v (.str (wordOf n))) S := RV.callW (ds := [.int n]) (h n) S
theorem eqD_str (a b : Str) : eqD (.str a) (.str b) = (a == b) := by simp [eqD, eqF]
theorem inD_str (w : Str) (ws : List Str) : inD (.str w) (ws.map D.str) = decide (w ∈ ws) := by
  unfold inD
  induction ws with
  | nil => simp
  | cons a ws ih =>
    simp only [List.map_cons, List.any_cons, ih, eqD_str, List.mem_cons]
    by_cases h : a = w
    · subst h; simp
    · have : ¬ w = a := fun e => h e.symm
      simp [h, this]
theorem dat_strs (ws : List Str) : datDs (ws.map D.str) = true := by
  unfold datDs
  simp [List.all_eq_true, datN]
theorem inW_str (T : Tb) (w : Str) (ws : List Str) (n : Nat) (S : Sto) (h : S[n]? = some (.lst ((ws.map D.str).map W.v))) : cmpW T .isin (.v (.str w)) (.r n) S = .ok (.v (.bl (decide (w ∈ ws)))) S := by
  have ho : objOf S (.r n) = none := by simp only [objOf, h]
  unfold cmpW
  dsimp only
  rw [ho]
  dsimp only
  rw [look_v, opt_some, look_r0 S n _ h, opt_some]
  unfold cmpD
  dsimp only
  rw [if_pos ⟨rfl, dat_strs ws⟩, inD_str, opt_some]
  rfl
theorem inV_str (T : Tb) (w : Str) (ws : List Str) (S : Sto) : cmpW T .isin (.v (.str w)) (.v (.lst (ws.map D.str))) S = .ok (.v (.bl (decide (w ∈ ws)))) S := by
  rw [cmpW_plain T .isin _ _ S rfl rfl]
  unfold cmpD
  dsimp only
  rw [if_pos ⟨rfl, dat_strs ws⟩, inD_str, opt_some]
  rfl
/-! ### names -/
theorem names_turns (T : Tb) (fw : Nat) (hw : HWord T fw) (ws : List Str) (c sa m le got s6 s10 s11 : Option W) (p : Bool × List W) (w : W) (hq : ∀ S, sqOf S w = some p) : ∀ (l : List D) (n : Int) (wd : Str) (s9 : Option W), ∃ n' s9', forW (lpS (execs T (cb_names_l1 fw)) 9) w p (l.map W.v)
    [c, sa, m, le, got, some (.r 0), s6, some (.v (.int n)), some (.v (.str wd)), s9, s10, s11] [.lst ((ws.map D.str).map W.v)] = .nx [c, sa, m, le, got, some (.r 0), s6, some (.v (.int n')), some (.v (.str (seek ws l.length n wd))), s9', s10, s11] [.lst ((ws.map D.str).map W.v)]
  | [], n, wd, s9 => ⟨n, s9, rfl⟩
  | d :: l, n, wd, s9 => by
    have hi := inW_str T wd ws 0 [.lst ((ws.map D.str).map W.v)] rfl
    have hc := hw.call (n + 1) [.lst ((ws.map D.str).map W.v)]
    by_cases h : wd ∈ ws
    · obtain ⟨n', s9', e⟩ := names_turns T fw hw ws c sa m le got s6 s10 s11 p w hq l (n + 1) (wordOf (n + 1)) (some (.v d))
      refine ⟨n', s9', ?_⟩
      simp only [List.map_cons, List.length_cons, seek, h, if_true]
      refine (forW_cons ?_ (hq _)).trans e
      simp only [h, decide_true] at hi
      generalize ((ws.map D.str).map W.v) = L at *
      simp [cb_names_l1, hi, hc]
    · obtain ⟨n', s9', e⟩ := names_turns T fw hw ws c sa m le got s6 s10 s11 p w hq l n wd (some (.v d))
      refine ⟨n', s9', ?_⟩
      rw [seek_out _ _ _ h] at e
      simp only [List.map_cons, List.length_cons, seek, h, if_false]
      refine (forW_cons ?_ (hq _)).trans e
      simp only [h, decide_false] at hi
      generalize ((ws.map D.str).map W.v) = L at *
      simp [cb_names_l1, hi]
theorem abch_eq : ("abcdefgh" : Str) = mkS [97, 98, 99, 100, 101, 102, 103, 104] := by decide +kernel
/-- one drawn word, before the search -/
theorem stem_nm {st : List Nat} {pl : Nat} {c : Nat} (h1 : 1 ≤ st.length) (h2 : st.length ≤ 8) (h3 : ∀ c ∈ st, 97 ≤ c ∧ c ≤ 122) (hp : pl < st.length) (hc : 97 ≤ c ∧ c ≤ 122) : isNm (mkS (st.take pl ++ [c] ++ st.drop (pl + 1))) := by
  unfold isNm
  rw [show cs (mkS (st.take pl ++ [c] ++ st.drop (pl + 1))) = st.take pl ++ [c] ++ st.drop (pl + 1) from cs_mkS _]
  refine ⟨by simp; omega, by simp; omega, fun x hx => ?_⟩
  simp only [List.mem_append, List.mem_singleton] at hx
  rcases hx with (hx | rfl) | hx
  · exact h3 x (List.mem_of_mem_take hx)
  · exact hc
  · exact h3 x (List.mem_of_mem_drop hx)
theorem names_body (T : Tb) (fw : Nat) (hw : HWord T fw) (ws : List Str) (c sa m : Option W) (got : List Int) (k : Nat) (x0 x1 x2 x3 xk : Int) (g0 : got[0]? = some x0) (g1 : got[1]? = some x1) (g2 : got[2]? = some x2) (g3 : got[3]? = some x3) (gk : got[3 + k]? = some xk) (b1 : 0 ≤ x1 ∧ x1 < 7) (b2 : 0 ≤ x2) (s6 s7 s8 s9 s10 s11 : Option W) (hz : ws.length < 1000) :
    ∃ (s7' s9' s10' s11' : Option W) (n : Int) (wd : Str), isNm wd ∧ execs T (cb_names_l2 fw) 1 [c, sa, m, some (.v (.str (mkS letters))), some (.v (.lst (got.map D.int))), some (.r 0), some (.v (.int k)), s7, s8, s9, s10, s11] [.lst ((ws.map D.str).map W.v)]
      = .nx [c, sa, m, some (.v (.str (mkS letters))), some (.v (.lst (got.map D.int))), some (.r 0), some (.v (.int k)), s7', some (.v (.str (seek ws 12 n wd))), s9', s10', s11'] [.lst (((ws ++ [seek ws 12 n wd]).map D.str).map W.v)] := by
  have ek : (3 + (k : Int)) = ((3 + k : Nat) : Int) := by omega
  have ga : atI ((got.map D.int).map W.v) (3 + (k : Int)) = some (.v (.int xk)) := by rw [ek, atI_nat]; simp [gk]
  have a0 : (got.map D.int)[0]? = some (.int x0) := by simp [g0]
  have a1 : (got.map D.int)[1]? = some (.int x1) := by simp [g1]
  have a2 : (got.map D.int)[2]? = some (.int x2) := by simp [g2]
  have a3 : (got.map D.int)[3]? = some (.int x3) := by simp [g3]
  have hc := fun n => hw.call n [.lst ((ws.map D.str).map W.v)]
  have lp := fun n wd s9 s10 s11 => names_turns T fw hw ws c sa m (some (.v (.str (mkS letters)))) (some (.v (.lst (got.map D.int)))) (some (.v (.int k))) s10 s11 (false, (rangeD 0 12).map W.v) (.v (.tup (rangeD 0 12))) (fun S => sqOf_t S _) (rangeD 0 12) n wd s9
  rw [show (rangeD 0 12).length = 12 from rfl] at lp
  have hzz : (List.map W.v (ws.map D.str)).length < 16777216 := by simp; omega
  have e9 : ∀ wd : Str, ((ws ++ [wd]).map D.str).map W.v = (ws.map D.str).map W.v ++ [.v (.str wd)] := fun wd => by simp
  simp only [e9]
  generalize ((ws.map D.str).map W.v) = L at hc lp hzz ⊢
  generalize hG : got.map D.int = G at *
  by_cases h : x0 = 1
  · obtain ⟨wl1, wl2, wl3⟩ := word_nm x3
    have hwl : cs (wordOf x3) = wordL x3 := cs_mkS _
    rw [hwl] at wl1 wl2 wl3
    let st := (wordL x3 ++ [97, 98, 99, 100, 101, 102, 103, 104]).take (2 + x1).toNat
    have hst : st.length = (2 + x1).toNat := by simp [st]; omega
    have hlet : ∀ c ∈ st, 97 ≤ c ∧ c ≤ 122 := fun c hc => by
      have := List.mem_of_mem_take hc
      rcases List.mem_append.mp this with h | h
      · exact wl3 c h
      · simp at h; omega
    have hsn : (0 : Int) < (st.length : Int) := by omega
    have q1 := Int.emod_nonneg x2 (b := (st.length : Int)) (by omega)
    have q2 := Int.emod_lt_of_pos x2 hsn
    have r1 := Int.emod_nonneg (x3 / 5 + 7 * k) (b := 26) (by decide)
    have r2 := Int.emod_lt_of_pos (x3 / 5 + 7 * k) (b := 26) (by decide)
    have hat : atI letters ((x3 / 5 + 7 * k) % 26) = some (97 + ((x3 / 5 + 7 * k) % 26).toNat) := by rw [atI_int _ r1, lett_at (by omega)]
    let wd := mkS (st.take (x2 % (st.length : Int)).toNat ++ [97 + ((x3 / 5 + 7 * k) % 26).toNat] ++ st.drop ((x2 % (st.length : Int)).toNat + 1))
    have hwd : isNm wd := stem_nm (by omega) (by omega) hlet (by omega) (by omega)
    obtain ⟨n', s9', e⟩ := lp xk wd s9 (some (.v (.str (mkS st)))) (some (.v (.int (x2 % (st.length : Int)))))
    refine ⟨some (.v (.int n')), s9', some (.v (.str (mkS st))), some (.v (.int (x2 % (st.length : Int)))), xk, wd, hwd, ?_⟩
    have k7 : smallI 7 = true := by decide
    have k5 : Nat.log2 5 < 9000 := by decide
    have c1 : cutS (mkS (wordL x3 ++ [97, 98, 99, 100, 101, 102, 103, 104])) none (some (2 + x1)) = mkS st := by rw [cutS_mkS, cutW_take _ (by omega)]
    have c2 : cutS (mkS st) none (some (x2 % (st.length : Int))) = mkS (st.take (x2 % (st.length : Int)).toNat) := by rw [cutS_mkS, cutW_take _ q1]
    have c3 : cutS (mkS st) (some (x2 % (st.length : Int) + 1)) none = mkS (st.drop ((x2 % (st.length : Int)).toNat + 1)) := by rw [cutS_mkS, cutW_drop _ (by omega)]; congr 2; omega
    have z1 : (wordL x3).length + 8 ≤ 16777216 := by omega
    have z2 : st.length ≤ 16777216 := by omega
    have z3 : (st.take (x2 % (st.length : Int)).toNat).length + 1 ≤ 16777216 := by simp; omega
    have z4 : (st.take (x2 % (st.length : Int)).toNat).length + 1 + (st.drop ((x2 % (st.length : Int)).toNat + 1)).length ≤ 16777216 := by simp; omega
    have hwo : wordOf x3 = mkS (wordL x3) := rfl
    have hsn' : 0 < st.length := by omega
    have z5 : (st.take (x2 % (st.length : Int)).toNat).length + (1 + (st.drop ((x2 % (st.length : Int)).toNat + 1)).length) ≤ 16777216 := by simp; omega
    have hwd' : mkS (st.take (x2 % (st.length : Int)).toNat ++ [97 + ((x3 / 5 + 7 * k) % 26).toNat] ++ st.drop ((x2 % (st.length : Int)).toNat + 1)) = wd := rfl
    generalize wd = wd at *
    generalize st = st at *
    generalize ha : st.take (x2 % (st.length : Int)).toNat = sa1 at *
    generalize hb : st.drop ((x2 % (st.length : Int)).toNat + 1) = sb1 at *
    simp only [List.append_assoc, List.singleton_append] at hwd'
    simp [cb_names_l2, ga, a0, a1, a2, a3, hc, h, abch_eq, hwo, c1, c2, c3, z1, z2, z3, z4, z5, hsn', hsn, hat, lett_len, chr1_mkS, k7, k5, e, hzz, hwd', List.append_assoc]
  · obtain ⟨n', s9', e⟩ := lp xk (wordOf xk) s9 s10 s11
    refine ⟨some (.v (.int n')), s9', s10, s11, xk, wordOf xk, word_nm xk, ?_⟩
    simp [cb_names_l2, ga, a0, hc, h, e, hzz]

theorem Drawn_cons {b : Int} {bs l : List Int} (h : Drawn (b :: bs) l) : ∃ x r, l = x :: r ∧ 0 ≤ x ∧ x < b ∧ Drawn bs r := by
  cases l with
  | nil => have := h.1; simp at this
  | cons x r =>
    obtain ⟨h1, h2⟩ := h
    refine ⟨x, r, rfl, (h2 0 x b rfl rfl).1, (h2 0 x b rfl rfl).2, by simpa using h1, fun i y z e1 e2 => h2 (i + 1) y z (by simpa using e1) (by simpa using e2)⟩
theorem Drawn_nil {l : List Int} (h : Drawn [] l) : l = [] := by
  have := h.1
  exact List.eq_nil_of_length_eq_zero (by simpa using this)
theorem Drawn_rep {b : Int} {n : Nat} {l : List Int} (h : Drawn (List.replicate n b) l) : l.length = n ∧ ∀ x ∈ l, 0 ≤ x ∧ x < b := by
  refine ⟨by simpa using h.1, fun x hx => ?_⟩
  obtain ⟨i, hi⟩ := List.getElem?_of_mem hx
  have hi' := (List.getElem?_eq_some_iff.mp hi).1
  exact h.2 i x b hi (by have e := h.1; rw [List.length_replicate] at e; rw [List.getElem?_replicate, if_pos (by omega)])
theorem Bases.cons {b : Int} {bs : List Int} (h1 : 0 < b) (h2 : b < 2 ^ 200) (h : Bases bs) : Bases (b :: bs) := by
  intro x hx
  rcases List.mem_cons.mp hx with rfl | hx
  · refine ⟨h1, ?_⟩
    have : x.natAbs < 2 ^ 200 := by omega
    have := (Nat.log2_lt (by omega)).mpr this
    omega
  · exact h x hx
theorem Bases.nil : Bases [] := fun x hx => by simp at hx
theorem Bases.rep {b : Int} (n : Nat) (h1 : 0 < b) (h2 : b < 2 ^ 200) : Bases (List.replicate n b) := by
  induction n with
  | zero => exact Bases.nil
  | succ n ih => exact Bases.cons h1 h2 ih
theorem HDraw.call {T : Tb} {f : Nat} (h : HDraw T f) (c sa : Int) (bs : List Int) (hb : Bases bs) (hl : bs.length < 100000) : ∃ l, Drawn bs l ∧ ∀ S, callW T f [.v (.int c), .v (.int sa), .v (.lst (bs.map D.int))] S = .ok (.r S.length) (S ++ [.lst ((l.map D.int).map W.v)]) := by
  obtain ⟨l, h1, h2⟩ := h c sa bs hb hl
  exact ⟨l, h1, fun S => RL.callW (ds := [.int c, .int sa, .lst (bs.map D.int)]) h2 S⟩
/-- different names -/
def HNames (T : Tb) (f : Nat) : Prop := ∀ (c sa : Int) (many : Nat), many ≤ 500 → ∃ ws : List Str, ws.length = many ∧ (∀ w ∈ ws, isNm w) ∧ (many ≤ 12 → ws.Nodup) ∧ RL (T.fs f [] [.v (.int c), .v (.int sa), .v (.int many)]) (ws.map D.str)
theorem names_spec (T : Tb) (fd fw : Nat) (hd : HDraw T fd) (hw : HWord T fw) (c sa : Int) (many : Nat) (hm : many ≤ 500) : ∃ ws : List Str, ws.length = many ∧ (∀ w ∈ ws, isNm w) ∧ (many ≤ 12 → ws.Nodup) ∧ RL (runD T 12 (cb_names fd fw) [] [.v (.int c), .v (.int sa), .v (.int many)]) (ws.map D.str) := by
  obtain ⟨got, h1, hcall⟩ := hd.call c sa (2 :: 7 :: 8 :: List.replicate many 217180147158) (.cons (by decide) (by decide) (.cons (by decide) (by decide) (.cons (by decide) (by decide) (.rep many (by decide) (by decide))))) (by simp; omega)
  obtain ⟨x0, got, rfl, _, _, h1⟩ := Drawn_cons h1
  obtain ⟨x1, got, rfl, b1, b1', h1⟩ := Drawn_cons h1
  obtain ⟨x2, got, rfl, b2, _, h1⟩ := Drawn_cons h1
  obtain ⟨hl, hx⟩ := Drawn_rep h1
  have lp := forW_invL (f := lpS (execs T (cb_names_l2 fw)) 6) (w := .v (.tup (rangeD 0 many))) (p := (false, (rangeD 0 many).map W.v)) (fun rem Γ S => ∃ (k : Nat) (ws : List Str) (s6 s7 s8 s9 s10 s11 : Option W), rem = rangeD k (many - k) ∧ k ≤ many ∧ ws.length = k ∧ (∀ w ∈ ws, isNm w) ∧ (many ≤ 12 → ws.Nodup) ∧ S = [.lst ((ws.map D.str).map W.v)] ∧ Γ = [some (.v (.int c)), some (.v (.int sa)), some (.v (.int many)), some (.v (.str (mkS letters))), some (.v (.lst ((x0 :: x1 :: x2 :: got).map D.int))), some (.r 0), s6, s7, s8, s9, s10, s11])
    (rangeD 0 many) (Γ := [some (.v (.int c)), some (.v (.int sa)), some (.v (.int many)), some (.v (.str (mkS letters))), some (.v (.lst ((x0 :: x1 :: x2 :: got).map D.int))), some (.r 0), none, none, none, none, none, none]) (S := [.lst []]) ⟨0, [], none, none, none, none, none, none, by simp, by omega, rfl, by simp, by simp, rfl, rfl⟩
    (by
      rintro d l Γ S ⟨k, ws, s6, s7, s8, s9, s10, s11, e1, e2, e3, e4, e5, rfl, rfl⟩
      have hk : many - k = (many - (k + 1)) + 1 := by
        have : many - k ≠ 0 := fun z => by rw [z] at e1; simp at e1
        omega
      rw [hk, rangeD_succ] at e1
      obtain ⟨rfl, rfl⟩ := List.cons.inj e1
      obtain ⟨x3, g3⟩ : ∃ x3, got[0]? = some x3 := ⟨_, List.getElem?_eq_getElem (by omega)⟩
      obtain ⟨xk, gk⟩ : ∃ xk, got[k]? = some xk := ⟨_, List.getElem?_eq_getElem (by omega)⟩
      obtain ⟨s7', s9', s10', s11', n, wd, hwd, hb⟩ := names_body T fw hw ws (some (.v (.int c))) (some (.v (.int sa))) (some (.v (.int many))) (x0 :: x1 :: x2 :: got) k x0 x1 x2 x3 xk rfl rfl rfl (by simpa using g3) (by rw [show 3 + k = k + 3 from by omega]; simpa using gk) ⟨b1, b1'⟩ b2 s6 s7 s8 s9 s10 s11 (by omega)
      refine ⟨_, _, hb, ⟨k + 1, ws ++ [seek ws 12 n wd], _, _, _, _, _, _, by simp, by omega, by simp; omega, ?_, ?_, rfl, rfl⟩, sqOf_t _ _⟩
      · intro w hw'
        rcases List.mem_append.mp hw' with h | h
        · exact e4 w h
        · simp at h; subst h; exact seek_nm _ _ _ hwd
      · intro h12
        rw [List.nodup_append]
        refine ⟨e5 h12, by simp, ?_⟩
        intro a ha b hb'
        simp at hb'
        subst hb'
        intro e
        exact seek_new n wd (by omega) (e ▸ ha))
  obtain ⟨Γ', S', h2, k, ws, s6, s7, s8, s9, s10, s11, e1, e2, e3, e4, e5, rfl, rfl⟩ := lp
  have hk : k = many := by
    have : many - k = 0 := by
      cases h : many - k with
      | zero => rfl
      | succ n => rw [h, rangeD_succ] at e1; cases e1
    omega
  subst hk
  refine ⟨ws, e3, e4, e5, ?_⟩
  have hcall := hcall []
  simp only [List.map_cons, List.length_nil, List.nil_append] at hcall
  have hrep : (List.replicate k (217180147158 : Int)).map D.int = List.replicate k (.int 217180147158) := by simp
  rw [hrep] at hcall
  have k1 : (k : Int) < 4611686018427387904 := by omega
  have k2 : -4611686018427387904 ≤ (k : Int) := by omega
  have k3 : -9223372036854775808 ≤ (k : Int) := by omega
  have k4 : (k : Int) < 9223372036854775808 := by omega
  have k5 : k ≤ 16777216 := by omega
  have k6 : 1 + 1 + 1 + k ≤ 16777216 := by omega
  have k7 : 3 + k ≤ 16777216 := by omega
  have hmr : unV (List.replicate k (W.v (.int 217180147158))) = some (List.replicate k (.int 217180147158)) := by
    have := unV_mapv (List.replicate k (.int 217180147158))
    simpa using this
  simp only [List.map_cons] at h2
  have key : runD T 12 (cb_names fd fw) [] [.v (.int c), .v (.int sa), .v (.int k)] = .ok (.r 0) [.lst ((ws.map D.str).map W.v)] := by
    generalize (ws.map D.str).map W.v = L at *
    generalize got.map D.int = G at *
    simp [runD_def, cb_names, lett_eq, List.replicate, k1, k2, k3, k4, k5, k6, k7, flat1, hmr, hcall, h2]
  rw [key]
  exact RL.mk' rfl
end NV

namespace NV
open PySem L2
/-! ### same -/
def sameD : Nat → D → Bool
  | 0, x => flatD x
  | n + 1, .lst l => decide (l.length < 100000) && l.all (sameD n)
  | n + 1, .tup l => decide (l.length < 100000) && l.all (sameD n)
  | n + 1, x => flatD x
theorem sameD_flat {n : Nat} {x : D} (h : flatD x = true) : sameD n x = true := by
  cases n with
  | zero => exact h
  | succ n => cases x <;> first | exact h | cases h
def HSame (T : Tb) (f n : Nat) : Prop := ∀ x, sameD n x = true → RV (T.fs f [] [.v x, .v x]) (.bl true)
theorem same_base (T : Tb) (f : Nat) {x : D} (h : sameD 0 x = true) : RV (runD T 3 (cbSame f) [] [.v x, .v x]) (.bl true) := ⟨[], same_flat T f h⟩
theorem same_step (T : Tb) (f n : Nat) (hf : HSame T f n) {x : D} (h : sameD (n + 1) x = true) : RV (runD T 3 (cbSame f) [] [.v x, .v x]) (.bl true) := by
  by_cases hx : flatD x = true
  · exact ⟨[], same_flat T f hx⟩
  · cases x with
    | lst l =>
      simp only [sameD, Bool.and_eq_true, decide_eq_true_eq, List.all_eq_true] at h
      exact ⟨[], same_seq T f _ l (.inl rfl) (by omega) fun y hy => hf y (h.2 y hy)⟩
    | tup l =>
      simp only [sameD, Bool.and_eq_true, decide_eq_true_eq, List.all_eq_true] at h
      exact ⟨[], same_seq T f _ l (.inr rfl) (by omega) fun y hy => hf y (h.2 y hy)⟩
    | _ => first | exact absurd rfl hx | cases h
theorem HSame.call {T : Tb} {f n : Nat} (h : HSame T f n) {x : D} (hx : sameD n x = true) (S : Sto) : callW T f [.v x, .v x] S = .ok (.v (.bl true)) S := RV.callW (ds := [x, x]) (h x hx) S
/-! ### cell, draw -/
def HCell (T : Tb) (f : Nat) : Prop := ∀ (ns : List Int) (k : Nat), RV (T.fs f [] [.v (.scr ns), .v (.int k)]) (.int (ns.getD k 0))
theorem HCell.call {T : Tb} {f : Nat} (h : HCell T f) (ns : List Int) (k : Nat) (S : Sto) : callW T f [.v (.scr ns), .v (.int k)] S = .ok (.v (.int (ns.getD k 0))) S := RV.callW (ds := [.scr ns, .int k]) (h ns k) S
theorem cell_spec' (T : Tb) (ns : List Int) (k : Nat) : RV (runD T 2 cbCell [] [.v (.scr ns), .v (.int k)]) (.int (ns.getD k 0)) := ⟨[], cell_spec T ns k⟩
theorem draw_spec' (T : Tb) (c sa : Int) (bs : List Int) (hb : Bases bs) (hl : bs.length < 100000) : ∃ l, Drawn bs l ∧ RL (runD T 9 cbDraw [] [.v (.int c), .v (.int sa), .v (.lst (bs.map D.int))]) (l.map D.int) := by
  obtain ⟨l, h1, h2⟩ := draw_spec T c sa bs hb hl
  exact ⟨l, h1, by rw [h2]; exact RL.mk' rfl⟩
/-! ### sorted spots -/
theorem strsOf_map (ws : List Str) : strsOf (ws.map D.str) = some ws := by
  induction ws with
  | nil => rfl
  | cons a ws ih => simp only [List.map_cons, strsOf, ih]; rfl
theorem sorted_str (T : Tb) (ws : List Str) (h : ws.length < 64) (S : Sto) : biW T .sorted (.v (.lst (ws.map D.str))) S = .ok (.r S.length) (S ++ [.lst (((sortS ws).map D.str).map W.v)]) := by
  unfold biW
  dsimp only
  rw [listOf_l, opt_some, unV_mapv, opt_some, strsOf_map]
  exact need_pos h
def spotD (p : Str × Str) : D := .tup [.str p.1, .str p.2]
def both2 (w : Str) : List (Str × Str) := [(w, "copy"), (w, "set")]
def spotsOf (ws : List Str) : List (Str × Str) := (sortS ws).flatMap both2
def HSpots (T : Tb) (f : Nat) : Prop := ∀ ws : List Str, ws.length < 64 → RV (T.fs f [] [.v (.lst (ws.map D.str))]) (.lst ((spotsOf ws).map spotD))
theorem spots_loop (T : Tb) (a : Option W) (w : W) (p : Bool × List W) (hq : ∀ S, sqOf S w = some p) : ∀ (ws : List Str) (acc : List (Str × Str)) (s2 s3 : Option W), acc.length + 2 * ws.length < 1000 → ∃ s2' s3', forW (lpS (execs T cb_spots_l1) 2) w p ((ws.map D.str).map W.v) [a, some (.v (.lst (acc.map spotD))), s2, s3] [] = .nx [a, some (.v (.lst ((acc ++ ws.flatMap both2).map spotD))), s2', s3'] []
  | [], acc, s2, s3, _ => ⟨s2, s3, by simp⟩
  | x :: ws, acc, s2, s3, hl => by
    simp only [List.length_cons] at hl
    obtain ⟨s2', s3', h⟩ := spots_loop T a w p hq ws (acc ++ both2 x) (some (.v (.str x))) s3 (by simp [both2]; omega)
    refine ⟨s2', s3', ?_⟩
    simp only [List.map_cons, List.flatMap_cons]
    rw [← List.append_assoc]
    refine (forW_cons ?_ (hq _)).trans h
    have z : acc.length + 1 + 1 ≤ 16777216 := by omega
    have z' : acc.length + 2 ≤ 16777216 := by omega
    simp [cb_spots_l1, tupK, z, z', spotD, both2]
theorem spots_spec (T : Tb) (ws : List Str) (h : ws.length < 64) : RV (runD T 4 cb_spots [] [.v (.lst (ws.map D.str))]) (.lst ((spotsOf ws).map spotD)) := by
  have hs : (sortS ws).length = ws.length := (sortS_perm ws).length_eq
  obtain ⟨s2, s3, lp⟩ := spots_loop T (some (.v (.lst (ws.map D.str)))) (.v (.lst ((sortS ws).map D.str))) (true, ((sortS ws).map D.str).map W.v) (fun S => sqOf_l S _) (sortS ws) [] none none (by simp; omega)
  have lc := fun Γ : Env' => fun (h4 : Γ.length = 4) => lc_mapD (fe := ev T cb_spots_e1) (Γ := Γ) (i := 3) (S := []) (w := .v (.lst (ws.map D.str))) (l := ws.map D.str) (g := id) rfl (fun d hd => by
    obtain ⟨s, _, rfl⟩ := List.mem_map.mp hd
    have : (Γ.set 3 (some (.v (.str s))))[3]? = some (some (.v (.str s))) := by simp [h4]
    simp [cb_spots_e1, this]) (by simp; omega)
  refine ⟨[], ?_⟩
  have so := sorted_str T ws h []
  simp only [List.map_id, List.length_nil, List.nil_append] at lc so
  simp only [List.map_nil, List.nil_append] at lp
  unfold spotsOf
  generalize ((sortS ws).flatMap both2).map spotD = R at *
  generalize hA : ws.map D.str = A at *
  generalize hB : (sortS ws).map D.str = B at *
  simp [runD_def, cb_spots, List.replicate, lc, so, lp]

/-! ### names that hold a cell -/
def sqC : Option Cell → Option (List W)
  | some (.lst l) => some l
  | some (.tup l) => some l
  | _ => none
@[simp] theorem sqC_l (l : List W) : sqC (some (.lst l)) = some l := id rfl
@[simp] theorem seqOf_r (S : Sto) (n : Nat) : seqOf S (.r n) = sqC S[n]? := by
  cases h : S[n]? with
  | none => simp only [seqOf, sqC, h]
  | some c => cases c <;> simp only [seqOf, sqC, h]
def obC : Option Cell → Option (Nat × List W)
  | some (.ins c l) => some (c, l)
  | _ => none
@[simp] theorem obC_l (l : List W) : obC (some (.lst l)) = none := id rfl
@[simp] theorem obC_i (c : Nat) (l : List W) : obC (some (.ins c l)) = some (c, l) := id rfl
@[simp] theorem objOf_r (S : Sto) (n : Nat) : objOf S (.r n) = obC S[n]? := by
  cases h : S[n]? with
  | none => simp only [objOf, obC, h]
  | some c => cases c <;> simp only [objOf, obC, h]
@[simp] theorem idxW_r (n : Nat) (i : Int) (S : Sto) : idxW (.r n) (.v (.int i)) S = opt (seqOf S (.r n)) fun l => opt (atI l i) (okW S) := id rfl
def lenC (T : Tb) (S : Sto) (n : Nat) : Option Cell → Out W
  | some (.lst l) => .ok (.v (.int l.length)) S
  | _ => biW T .len (.r n) S
@[simp] theorem lenC_l (T : Tb) (S : Sto) (n : Nat) (l : List W) : lenC T S n (some (.lst l)) = .ok (.v (.int l.length)) S := id rfl
@[simp] theorem biW_lenR (T : Tb) (n : Nat) (S : Sto) : biW T .len (.r n) S = lenC T S n S[n]? := by
  unfold lenC
  cases h : S[n]? with
  | none => rfl
  | some c =>
    cases c with
    | lst l =>
      unfold biW
      simp [h]
    | _ => rfl
theorem lc_filterG {stp : W → Env' → Option Env'} {ft : Env' → Sto → Out Bool} {fe : Env' → Sto → Out W} {Γ : Env'} {S : Sto} {w : W} {l : List D} {p : D → Bool} {g : D → D} (hw : seqOf S w = some (l.map W.v)) (h : ∀ d ∈ l, ∃ Γ', stp (.v d) Γ = some Γ' ∧ ft Γ' S = .ok (p d) S ∧ (p d = true → fe Γ' S = .ok (.v (g d)) S)) (hz : l.length ≤ 16777216) : lcG1 stp ft fe Γ w S = .ok (.r S.length) (S ++ [.lst (((l.filter p).map g).map W.v)]) := by
  unfold lcG1
  rw [hw, opt_some]
  unfold lcE
  rw [lcRun_fm (g := fun d => if p d then some (g d) else none) fun d hd => by
    obtain ⟨Γ', h1, h2, h3⟩ := h d hd
    unfold turnGC
    rw [h1, opt_some]
    show (ft Γ' S).bind (lccK (fe Γ') S) = _
    rw [h2, Out.bind_ok]
    unfold lccK
    rw [needC_pos rfl]
    cases e : p d with
    | false => simp
    | true =>
      simp only [if_true]
      show (fe Γ' S).bind (someK S) = _
      rw [h3 e, Out.bind_ok]
      exact someK_same _ _]
  rw [Out.bind_ok]
  unfold lcK
  rw [List.length_map, fm_filter]
  exact need_pos (by rw [sizeLine_n]; exact hz)
theorem lc_mapG {stp : W → Env' → Option Env'} {fe : Env' → Sto → Out W} {Γ : Env'} {S : Sto} {w : W} {l : List D} {g : D → D} (hw : seqOf S w = some (l.map W.v)) (h : ∀ d ∈ l, ∃ Γ', stp (.v d) Γ = some Γ' ∧ fe Γ' S = .ok (.v (g d)) S) (hz : l.length ≤ 16777216) : lcG0 stp fe Γ w S = .ok (.r S.length) (S ++ [.lst ((l.map g).map W.v)]) := by
  unfold lcG0
  rw [hw, opt_some]
  unfold lcE
  rw [lcRun_mapD (g := g) fun d hd => by
    obtain ⟨Γ', h1, h3⟩ := h d hd
    unfold turnG
    rw [h1, opt_some]
    show (fe Γ' S).bind (someK S) = _
    rw [h3, Out.bind_ok]
    exact someK_same _ _]
  rw [Out.bind_ok]
  unfold lcK
  rw [List.length_map]
  exact need_pos (by rw [sizeLine_n]; exact hz)
/-! ### pairs of texts compared -/
theorem eq_spot (p q : Str × Str) : eqD (spotD p) (spotD q) = decide (p = q) := by
  obtain ⟨a, b⟩ := p
  obtain ⟨c, d⟩ := q
  by_cases h1 : a = c <;> by_cases h2 : b = d <;> simp [spotD, eqD, eqDs, eqF, Prod.mk.injEq, h1, h2]
theorem dat_spot (p : Str × Str) : datD (spotD p) = true := by simp [spotD, datD, datN]
theorem ne_spot (T : Tb) (p q : Str × Str) (S : Sto) : cmpW T .ne (.v (spotD p)) (.v (spotD q)) S = .ok (.v (.bl (!decide (p = q)))) S := by
  rw [cmpW_plain T .ne _ _ S rfl rfl]
  simp [cmpD, dat_spot, eq_spot]
theorem eq_spotW (T : Tb) (p q : Str × Str) (S : Sto) : cmpW T .eq (.v (spotD p)) (.v (spotD q)) S = .ok (.v (.bl (decide (p = q)))) S := by
  rw [cmpW_plain T .eq _ _ S rfl rfl]
  simp [cmpD, dat_spot, eq_spot]
theorem ne_str (T : Tb) (p q : Str) (S : Sto) : cmpW T .ne (.v (.str p)) (.v (.str q)) S = .ok (.v (.bl (!decide (p = q)))) S := by
  rw [cmpW_plain T .ne _ _ S rfl rfl]
  simp [cmpD, eqD_str, datD, datN]
  by_cases h : p = q <;> simp [h]
theorem eq_str (T : Tb) (p q : Str) (S : Sto) : cmpW T .eq (.v (.str p)) (.v (.str q)) S = .ok (.v (.bl (decide (p = q)))) S := by
  rw [cmpW_plain T .eq _ _ S rfl rfl]
  simp [cmpD, eqD_str, datD, datN]
  by_cases h : p = q <;> simp [h]
def home : Str × Str := ("", "")
theorem spot_home : D.tup [.str "", .str ""] = spotD home := rfl
@[simp] theorem idx_spot0 (p : Str × Str) (S : Sto) : idxW (.v (spotD p)) (.v (.int 0)) S = .ok (.v (.str p.1)) S := by
  unfold spotD
  simp
@[simp] theorem idx_spot1 (p : Str × Str) (S : Sto) : idxW (.v (spotD p)) (.v (.int 1)) S = .ok (.v (.str p.2)) S := by
  unfold spotD
  simp
/-! enumerate -/
def enumK (l : List D) (k : Nat) : List D := (l.zipIdx k).map fun p => D.tup [.int (p.2 : Nat), p.1]
theorem enumK_nil (k : Nat) : enumK [] k = [] := rfl
theorem enumK_cons (d : D) (l : List D) (k : Nat) : enumK (d :: l) k = .tup [.int k, d] :: enumK l (k + 1) := rfl
theorem enumD_K (l : List D) : enumD l = enumK l 0 := rfl
theorem rangeD_r' (k n : Nat) : rangeD k n = (List.range' k n).map fun i : Nat => D.int i := by
  induction n generalizing k with
  | zero => rfl
  | succ n ih =>
    rw [rangeD_succ, List.range'_succ, List.map_cons]
    have := ih (k + 1)
    simp only [Int.natCast_add, Int.natCast_one] at this
    rw [this]
end NV

namespace NV
open PySem L2
/-! ### calls by the number of arguments -/
theorem RV.c1 {T : Tb} {f : Nat} {a d : D} (h : RV (T.fs f [] [.v a]) d) (S : Sto) : NV.callW T f [.v a] S = .ok (.v d) S := RV.callW (ds := [a]) h S
theorem RV.c2 {T : Tb} {f : Nat} {a b d : D} (h : RV (T.fs f [] [.v a, .v b]) d) (S : Sto) : NV.callW T f [.v a, .v b] S = .ok (.v d) S := RV.callW (ds := [a, b]) h S
theorem RV.c3 {T : Tb} {f : Nat} {a b c d : D} (h : RV (T.fs f [] [.v a, .v b, .v c]) d) (S : Sto) : NV.callW T f [.v a, .v b, .v c] S = .ok (.v d) S := RV.callW (ds := [a, b, c]) h S
theorem RV.c4 {T : Tb} {f : Nat} {a b c e d : D} (h : RV (T.fs f [] [.v a, .v b, .v c, .v e]) d) (S : Sto) : NV.callW T f [.v a, .v b, .v c, .v e] S = .ok (.v d) S := RV.callW (ds := [a, b, c, e]) h S
theorem RL.c1 {T : Tb} {f : Nat} {a : D} {l : List D} (h : RL (T.fs f [] [.v a]) l) (S : Sto) : NV.callW T f [.v a] S = .ok (.r S.length) (S ++ [.lst (l.map W.v)]) := RL.callW (ds := [a]) h S
theorem RL.c2 {T : Tb} {f : Nat} {a b : D} {l : List D} (h : RL (T.fs f [] [.v a, .v b]) l) (S : Sto) : NV.callW T f [.v a, .v b] S = .ok (.r S.length) (S ++ [.lst (l.map W.v)]) := RL.callW (ds := [a, b]) h S
theorem RL.c3 {T : Tb} {f : Nat} {a b c : D} {l : List D} (h : RL (T.fs f [] [.v a, .v b, .v c]) l) (S : Sto) : NV.callW T f [.v a, .v b, .v c] S = .ok (.r S.length) (S ++ [.lst (l.map W.v)]) := RL.callW (ds := [a, b, c]) h S
theorem RL.c4 {T : Tb} {f : Nat} {a b c e : D} {l : List D} (h : RL (T.fs f [] [.v a, .v b, .v c, .v e]) l) (S : Sto) : NV.callW T f [.v a, .v b, .v c, .v e] S = .ok (.r S.length) (S ++ [.lst (l.map W.v)]) := RL.callW (ds := [a, b, c, e]) h S
@[simp] theorem belowL (k : Nat) (l : List W) : (Cell.lst l).below k = l.all (refB k) := id rfl
@[simp] theorem belowT (k : Nat) (l : List W) : (Cell.tup l).below k = l.all (refB k) := id rfl
@[simp] theorem belowD (k : Nat) : Cell.dead.below k = true := id rfl
/-! ### objects -/
@[simp] theorem mthE_i (T : Tb) (m : Str) (ds : List Df) (ma : Sto → Out (List W)) (c : Nat) (l : List D) (S : Sto) : mthE T m ds ma (.v (.ins c l)) S = opt (asc m (T.ci c).mths) fun f => (ma S).bind (mthK T f ds (.v (.ins c l))) := id rfl
@[simp] theorem mthLE_i (T : Tb) (m : Str) (ds : List Df) (ma : Sto → Out (List W)) (c : Nat) (l : List D) (S : Sto) : mthLE T m ds ma (.v (.ins c l)) S = opt (asc m (T.ci c).mths) fun f => (ma S).bind (mthLK T f ds (.v (.ins c l))) := id rfl
@[simp] theorem mthLK_def (T : Tb) (f : Nat) (ds : List Df) (x : W) (ws : List W) (S : Sto) : mthLK T f ds x ws S = callL T f (x :: (ws ++ dfs ds)) S := id rfl
@[simp] theorem callLK_def (T : Tb) (f : Nat) (ds : List Df) (ws : List W) (S : Sto) : callLK T f ds ws S = callL T f (ws ++ dfs ds) S := id rfl
@[simp] theorem prpW_i (T : Tb) (a : Str) (c : Nat) (l : List D) (S : Sto) : prpW T a (.v (.ins c l)) S = opt (asc a (T.ci c).prps) fun f => noErr (callW T f [.v (.ins c l)] S) := id rfl
@[simp] theorem conW_i (T : Tb) (a : Str) (c : Nat) (l : List D) (S : Sto) : conW T a (.v (.ins c l)) S = opt (asc a (T.ci c).cons) (okD S) := id rfl
@[simp] theorem cmpW_eq_i (T : Tb) (c e : Nat) (l m : List D) (S : Sto) : cmpW T .eq (.v (.ins c l)) (.v (.ins e m)) S = need (c = e) (opt (asc "__eq__" (T.ci c).mths) fun f => (callW T f [.v (.ins c l), .v (.ins e m)] S).bind boolO) := id rfl
@[simp] theorem cmpW_lt_i (T : Tb) (c e : Nat) (l m : List D) (S : Sto) : cmpW T .lt (.v (.ins c l)) (.v (.ins e m)) S = need (c = e) (opt (asc "__lt__" (T.ci c).mths) fun f => (callW T f [.v (.ins c l), .v (.ins e m)] S).bind boolO) := id rfl
@[simp] theorem cmpW_in_i (T : Tb) (c : Nat) (x : W) (m : List D) (S : Sto) : cmpW T .isin x (.v (.ins c m)) S = opt (asc "__contains__" (T.ci c).mths) fun f => (callW T f [.v (.ins c m), x] S).bind boolO := id rfl
@[simp] theorem cmpW_notin_i (T : Tb) (c : Nat) (x : W) (m : List D) (S : Sto) : cmpW T .notin x (.v (.ins c m)) S = opt (asc "__contains__" (T.ci c).mths) fun f => (callW T f [.v (.ins c m), x] S).bind notO := id rfl
@[simp] theorem binW_i (T : Tb) (op : BO) (c e : Nat) (l m : List D) (S : Sto) : binW T op (.v (.ins c l)) (.v (.ins e m)) S = need (c = e) (opt (asc (dnOf op) (T.ci c).mths) fun f => callW T f [.v (.ins c l), .v (.ins e m)] S) := id rfl
@[simp] theorem truW_i (T : Tb) (c : Nat) (l : List D) (S : Sto) : truW T (.v (.ins c l)) S = opt (asc "__bool__" (T.ci c).mths) fun f => (callW T f [.v (.ins c l)] S).bind truO := id rfl
@[simp] theorem biW_bool_i (T : Tb) (c : Nat) (l : List D) (S : Sto) : biW T .bool (.v (.ins c l)) S = opt (asc "__bool__" (T.ci c).mths) fun f => boolN (callW T f [.v (.ins c l)] S) := id rfl
@[simp] theorem biW_len_i (T : Tb) (c : Nat) (l : List D) (S : Sto) : biW T .len (.v (.ins c l)) S = opt (asc "__len__" (T.ci c).mths) fun f => lenO (callW T f [.v (.ins c l)] S) := id rfl
@[simp] theorem boolN_ok (b : Bool) (S : Sto) : boolN (.ok (.v (.bl b)) S) = .ok (.v (.bl b)) S := id rfl
@[simp] theorem lenO_ok (i : Int) (S : Sto) : lenO (.ok (.v (.int i)) S) = need (0 ≤ i ∧ i < 2 ^ 63) (okD S (.int i)) := id rfl
@[simp] theorem iscW_i (T : Tb) (c k : Nat) (l : List D) (S : Sto) : iscW T k (.v (.ins c l)) S = need ((T.ci c).sups.contains c = true) (okB S ((T.ci c).sups.contains k)) := id rfl
@[simp] theorem isiW_i (T : Tb) (c : Nat) (t : Ty) (l : List D) (S : Sto) : isiW T t (.v (.ins c l)) S = need ((T.ci c).sups.contains c = true) (okB S false) := id rfl
theorem fldK_b (T : Tb) (a : Str) (c : Nat) (l : List W) : fldK T a (c, l) = (ixOf a (T.ci c).flds).bind (l[·]?) := by
  unfold fldK
  dsimp only
  cases ixOf a (T.ci c).flds <;> rfl
@[simp] theorem fldK_bind (T : Tb) (a : Str) (c : Nat) (l : List W) : fldK T a (c, l) = (ixOf a (T.ci c).flds).bind (l[·]?) := fldK_b T a c l
/-- self.a = w, step by step -/
def sfB (T : Tb) (Γ : Env') (a : Str) (w : W) (S : Sto) (n : Nat) : Option Cell → SOut
  | some (.ins c l) => optS (ixOf a (T.ci c).flds) fun k => optS (putA l k w) fun l' => .nx Γ (S.set n (.ins c l'))
  | _ => .bad
def sfA (T : Tb) (Γ : Env') (a : Str) (w : W) (S : Sto) : Option (Option W) → SOut
  | some (some (.r n)) => sfB T Γ a w S n S[n]?
  | _ => .bad
@[simp] theorem sfB_i (T : Tb) (Γ : Env') (a : Str) (w : W) (S : Sto) (n c : Nat) (l : List W) : sfB T Γ a w S n (some (.ins c l)) = optS (ixOf a (T.ci c).flds) fun k => optS (putA l k w) fun l' => .nx Γ (S.set n (.ins c l')) := id rfl
@[simp] theorem sfA_r (T : Tb) (Γ : Env') (a : Str) (w : W) (S : Sto) (n : Nat) : sfA T Γ a w S (some (some (.r n))) = sfB T Γ a w S n S[n]? := id rfl
@[simp] theorem sfldK_def (T : Tb) (Γ : Env') (i : Nat) (a : Str) (w : W) (S : Sto) : sfldK T Γ i a w S = sfA T Γ a w S Γ[i]? := by
  cases h : Γ[i]? with
  | none => simp only [sfldK, sfA, h]
  | some o =>
    cases o with
    | none => simp only [sfldK, sfA, h]
    | some x =>
      cases x with
      | v d => simp only [sfldK, sfA, h]
      | r n =>
        cases h2 : S[n]? with
        | none => simp only [sfldK, sfA, sfB, h, h2]
        | some c => cases c <;> simp only [sfldK, sfA, sfB, h, h2]
@[simp] theorem putA_lt (l : List W) (k : Nat) (d : W) (h : k < l.length) : putA l k d = some (l.set k d) := by
  unfold putA
  rw [if_pos h]
@[simp] theorem putA_eq (l : List W) (k : Nat) (d : W) (h : k = l.length) : putA l k d = some (l ++ [d]) := by
  unfold putA
  rw [if_neg (by omega), if_pos h]
@[simp] theorem biW_listT (T : Tb) (l : List D) (S : Sto) : biW T .list (.v (.tup l)) S = .ok (.r S.length) (S ++ [.lst (l.map W.v)]) := id rfl
@[simp] theorem biW_tupT (T : Tb) (l : List D) (S : Sto) : biW T .tuple (.v (.tup l)) S = .ok (.v (.tup l)) S := id rfl
@[simp] theorem biW_tupL (T : Tb) (l : List D) (S : Sto) : biW T .tuple (.v (.lst l)) S = .ok (.v (.tup l)) S := by
  unfold biW
  simp
def lsC (T : Tb) (S : Sto) (n : Nat) : Option Cell → Out W
  | some (.lst l) => .ok (.r S.length) (S ++ [.lst l])
  | _ => biW T .list (.r n) S
@[simp] theorem lsC_l (T : Tb) (S : Sto) (n : Nat) (l : List W) : lsC T S n (some (.lst l)) = .ok (.r S.length) (S ++ [.lst l]) := id rfl
@[simp] theorem biW_listR (T : Tb) (n : Nat) (S : Sto) : biW T .list (.r n) S = lsC T S n S[n]? := by
  unfold lsC
  cases h : S[n]? with
  | none => rfl
  | some c =>
    cases c with
    | lst l =>
      unfold biW
      simp [h]
    | _ => rfl
/-! ### an object is made and settled -/
theorem make_v {T : Tb} {c f : Nat} {ds l : List D} {S : Sto} (h : T.fs f [.ins c []] (.r 0 :: ds.map W.v) = .ok (.v .non) [.ins c (l.map W.v)]) : makeW T c f (ds.map W.v) S = .ok (.r S.length) (S ++ [.ins c (l.map W.v)]) := by
  unfold makeW
  rw [unV_mapv, h]
  show emb S (.r 0) [.ins c (l.map W.v)] = _
  unfold emb
  simp
theorem make_v1 {T : Tb} {c f : Nat} {a : D} {l : List D} {S : Sto} (h : T.fs f [.ins c []] [.r 0, .v a] = .ok (.v .non) [.ins c (l.map W.v)]) : makeW T c f [.v a] S = .ok (.r S.length) (S ++ [.ins c (l.map W.v)]) := make_v (ds := [a]) h
theorem make_v2 {T : Tb} {c f : Nat} {a b : D} {l : List D} {S : Sto} (h : T.fs f [.ins c []] [.r 0, .v a, .v b] = .ok (.v .non) [.ins c (l.map W.v)]) : makeW T c f [.v a, .v b] S = .ok (.r S.length) (S ++ [.ins c (l.map W.v)]) := make_v (ds := [a, b]) h

/-! ### lists that change -/
def clC (Γ : Env') (S : Sto) (n : Nat) : Option Cell → SOut
  | some (.lst _) => .nx Γ (S.set n (.lst []))
  | _ => .bad
@[simp] theorem clC_l (Γ : Env') (S : Sto) (n : Nat) (l : List W) : clC Γ S n (some (.lst l)) = .nx Γ (S.set n (.lst [])) := id rfl
@[simp] theorem clr1_r (Γ : Env') (n : Nat) (S : Sto) : clr1 Γ (.r n) S = clC Γ S n S[n]? := by
  cases h : S[n]? with
  | none => simp only [clr1, mutL, clC, h]
  | some c => cases c <;> simp only [clr1, mutL, clC, h, clrF, optS_some]
def rvC (Γ : Env') (S : Sto) (n : Nat) : Option Cell → SOut
  | some (.lst l) => .nx Γ (S.set n (.lst l.reverse))
  | _ => .bad
@[simp] theorem rvC_l (Γ : Env') (S : Sto) (n : Nat) (l : List W) : rvC Γ S n (some (.lst l)) = .nx Γ (S.set n (.lst l.reverse)) := id rfl
@[simp] theorem rvs1_r (Γ : Env') (n : Nat) (S : Sto) : rvs1 Γ (.r n) S = rvC Γ S n S[n]? := by
  cases h : S[n]? with
  | none => simp only [rvs1, mutL, rvC, h]
  | some c => cases c <;> simp only [rvs1, mutL, rvC, h, rvsF, optS_some]
def siC (Γ : Env') (S : Sto) (n : Nat) (k : Int) (w : W) : Option Cell → SOut
  | some (.lst l) => optS (sixF k w l) fun l' => .nx Γ (S.set n (.lst l'))
  | _ => .bad
@[simp] theorem siC_l (Γ : Env') (S : Sto) (n : Nat) (k : Int) (w : W) (l : List W) : siC Γ S n k w (some (.lst l)) = optS (sixF k w l) fun l' => .nx Γ (S.set n (.lst l')) := id rfl
@[simp] theorem six3_r (Γ : Env') (n : Nat) (k : Int) (w : W) (S : Sto) : six3 Γ w (.r n) (.v (.int k)) S = siC Γ S n k w S[n]? := by
  cases h : S[n]? with
  | none => simp only [six3, intW_int, optS_some, mutL, siC, h]
  | some c => cases c <;> simp only [six3, intW_int, optS_some, mutL, siC, h]
@[simp] theorem six2_def (Γ : Env') (mi : Sto → Out W) (w x : W) (S : Sto) : six2 Γ mi w x S = liftE Γ (mi S) (six3 Γ w x) := id rfl
@[simp] theorem six1_def (Γ : Env') (mo mi : Sto → Out W) (w : W) (S : Sto) : six1 Γ mo mi w S = liftE Γ (mo S) (six2 Γ mi w) := id rfl
theorem sixF_int {l : List W} {w : W} {k : Int} (h0 : 0 ≤ k) (h : k.toNat < l.length) : sixF k w l = some (l.set k.toNat w) := by
  unfold sixF ixN
  rw [if_pos h0, if_pos (by omega)]
/-! ### lent -/
theorem lends_vs (S : Sto) (k : Nat) : ∀ l : List D, lends S k (l.map W.v) = some l
  | [] => by unfold lends; rfl
  | d :: l => by
    simp only [List.map_cons]
    unfold lends
    rw [show lend S k (.v d) = some d from by cases k <;> (unfold lend; rfl)]
    dsimp only
    rw [lends_vs S k l]
    rfl
@[simp] theorem lend_v (S : Sto) (k : Nat) (d : D) : lend S k (.v d) = some d := by cases k <;> (unfold lend; rfl)
theorem lend_l {S : Sto} {n : Nat} {l : List D} (k : Nat) (h : S[n]? = some (.lst (l.map W.v))) : lend S (k + 1) (.r n) = some (.lst l) := by
  unfold lend
  rw [h]
  dsimp only
  rw [lends_vs S k l]
  rfl
@[simp] theorem lends_nil (S : Sto) (k : Nat) : lends S k [] = some [] := by unfold lends; rfl
def lendC (x : Option D) (l : Option (List D)) : Option (List D) := match x with
  | some d => l.map (d :: ·)
  | none => none
@[simp] theorem lendC_some (d : D) (l : Option (List D)) : lendC (some d) l = l.map (d :: ·) := id rfl
@[simp] theorem lends_cons (S : Sto) (k : Nat) (w : W) (l : List W) : lends S k (w :: l) = lendC (lend S k w) (lends S k l) := by
  rw [lends]
  unfold lendC
  cases lend S k w <;> rfl
theorem call_L {T : Tb} {f : Nat} {ws : List W} {ds : List D} {S : Sto} {d : D} (hw : lends S 4 ws = some ds) (h : RV (T.fs f [] (ds.map W.v)) d) (hd : tupD d = true) : callL T f ws S = .ok (.v d) S := by
  obtain ⟨S', h⟩ := h
  unfold callL
  rw [hw, opt_some]
  unfold lendK
  rw [h]
  exact need_pos hd
def cellAt (ns : List Int) (k : Nat) : Int := ns.getD k 0
theorem HCell.lit {T : Tb} {f : Nat} (h : HCell T f) (ns : List Int) (k : Nat) (S : Sto) : NV.callW T f [.v (.scr ns), .v (.int (no_index (OfNat.ofNat k)))] S = .ok (.v (.int (cellAt ns k))) S := h.call ns k S
theorem rep_map {α β : Type} (f : α → β) (n : Nat) (l : List α) : (List.replicate n (l.map f)).flatten = ((List.replicate n l).flatten).map f := by
  induction n with
  | zero => rfl
  | succ n ih => simp only [List.replicate_succ, List.flatten_cons, List.map_append, ih]
theorem modN (x : Int) {n : Int} (h : 0 < n) : ∃ k : Nat, x % n = k ∧ (k : Int) < n := ⟨(x % n).toNat, by have := Int.emod_nonneg x (b := n) (by omega); omega, by have := Int.emod_nonneg x (b := n) (by omega); have := Int.emod_lt_of_pos x h; omega⟩
end NV

namespace NV
open PySem L2
def cb_people (f_draw f_cell f_names : Nat) : CB := (.cons (.set 3 (.frz (.call f_draw (.cons (.frz (.call f_cell (.cons (.var 0) (.cons (.int 0) .nil)) [])) (.cons (.int 1) (.cons (.frz (.lst (.cons (.var 1) (.cons (.var 2) .nil)))) .nil))) []))) (.cons (.set 4 (.frz (.call f_names (.cons (.frz (.call f_cell (.cons (.var 0) (.cons (.int 1) .nil)) [])) (.cons (.int 2) (.cons (.bin .add (.bin .add (.int 2) (.idx (.var 3) (.int 0))) (.idx (.var 3) (.int 1))) .nil))) []))) (.cons (.ret (.lst (.cons (.frz (.sli (.var 4) .no (.so (.bin .add (.int 1) (.idx (.var 3) (.int 0)))))) (.cons (.frz (.sli (.var 4) (.so (.bin .add (.int 1) (.idx (.var 3) (.int 0)))) .no)) .nil)))) .nil)))
def cb_fresh_l1 (f_word : Nat) : CB := (.cons (.set 3 (.frz (.call f_word (.cons (.bin .add (.var 0) (.var 2)) .nil) []))) (.cons (.ite (.cmp .notin (.var 3) (.var 1)) (.cons (.ret (.var 3)) .nil) .nil) .nil))
def cb_fresh (f_word : Nat) : CB := (.cons (.fr 2 (.r1 (.bin .add (.bi .len (.var 1)) (.int 1))) (cb_fresh_l1 f_word )) (.cons (.ret (.str "")) .nil))
def cb_is_name_e1 (g_LETTERS : Nat) : CE := (.cmp .isin (.var 1) (.glo g_LETTERS ))
def cb_is_name (g_MOST_LETTERS g_LETTERS : Nat) : CB := (.cons (.ite (.not (.chain .le .le (.int 1) (.bi .len (.var 0)) (.glo g_MOST_LETTERS ))) (.cons (.ret (.bl false)) .nil) .nil) (.cons (.ret (.bi .all (.frz (.lc (cb_is_name_e1 g_LETTERS ) 1 (.e (.var 0)))))) .nil))
abbrev sD (l : List Str) : List D := l.map D.str
/-- a family and neighbours -/
structure Ppl (mf mn : Nat) (fam nei : List Str) : Prop where
  f1 : 1 ≤ fam.length
  f2 : fam.length ≤ mf
  n1 : 1 ≤ nei.length
  n2 : nei.length ≤ mn
  nm : ∀ w ∈ fam ++ nei, isNm w
  nd : (fam ++ nei).Nodup
def HPeople (T : Tb) (f : Nat) : Prop := ∀ (ns : List Int) (mf mn : Nat), 1 ≤ mf → mf ≤ 4 → 1 ≤ mn → mn ≤ 8 → ∃ fam nei, Ppl mf mn fam nei ∧ RL (T.fs f [] [.v (.scr ns), .v (.int mf), .v (.int mn)]) [.lst (sD fam), .lst (sD nei)]
theorem HNames.call {T : Tb} {f : Nat} (h : HNames T f) (c sa : Int) (many : Nat) (hm : many ≤ 500) : ∃ ws : List Str, ws.length = many ∧ (∀ w ∈ ws, isNm w) ∧ (many ≤ 12 → ws.Nodup) ∧ ∀ S, NV.callW T f [.v (.int c), .v (.int sa), .v (.int many)] S = .ok (.r S.length) (S ++ [.lst ((sD ws).map W.v)]) := by
  obtain ⟨ws, h1, h2, h3, h4⟩ := h c sa many hm
  exact ⟨ws, h1, h2, h3, RL.c3 h4⟩
theorem people_spec (T : Tb) (fd fc fn : Nat) (hd : HDraw T fd) (hc : HCell T fc) (hn : HNames T fn) (ns : List Int) (mf mn : Nat) (h1 : 1 ≤ mf) (h2 : mf ≤ 4) (h3 : 1 ≤ mn) (h4 : mn ≤ 8) : ∃ fam nei, Ppl mf mn fam nei ∧ RL (runD T 5 (cb_people fd fc fn) [] [.v (.scr ns), .v (.int mf), .v (.int mn)]) [.lst (sD fam), .lst (sD nei)] := by
  have ce := hc.lit ns
  obtain ⟨got, hg, hcall⟩ := hd.call (cellAt ns 0) 1 [(mf : Int), (mn : Int)] (.cons (by omega) (by omega) (.cons (by omega) (by omega) .nil)) (by simp)
  obtain ⟨x0, got, rfl, a0, a1, hg⟩ := Drawn_cons hg
  obtain ⟨x1, got, rfl, b0, b1, hg⟩ := Drawn_cons hg
  have := Drawn_nil hg
  subst this
  obtain ⟨ws, w1, w2, w3, w4⟩ := hn.call (cellAt ns 1) 2 (2 + x0.toNat + x1.toNat) (by omega)
  refine ⟨ws.take (1 + x0).toNat, ws.drop (1 + x0).toNat, ⟨by simp; omega, by simp; omega, by simp; omega, by simp; omega, by rw [List.take_append_drop]; exact w2, by rw [List.take_append_drop]; exact w3 (by omega)⟩, ?_⟩
  have e1 : 2 + x0 + x1 = ((2 + x0.toNat + x1.toNat : Nat) : Int) := by omega
  have hcall := hcall []
  have w4 := w4 []
  rw [← e1] at w4
  have c1 : cutW ((sD ws).map W.v) none (some (1 + x0)) = (sD (ws.take (1 + x0).toNat)).map W.v := by rw [cutW_take _ (by omega)]; simp [List.map_take]
  have c2 : cutW ((sD ws).map W.v) (some (1 + x0)) none = (sD (ws.drop (1 + x0).toNat)).map W.v := by rw [cutW_drop _ (by omega)]; simp [List.map_drop]
  have key : runD T 5 (cb_people fd fc fn) [] [.v (.scr ns), .v (.int mf), .v (.int mn)] = .ok (.r 0) [.lst [.v (.lst (sD (ws.take (1 + x0).toNat))), .v (.lst (sD (ws.drop (1 + x0).toNat)))]] := by
    simp only [List.map_cons, List.map_nil, List.length_nil, List.nil_append] at hcall w4
    generalize sD (ws.take (1 + x0).toNat) = A at *
    generalize sD (ws.drop (1 + x0).toNat) = B at *
    generalize sD ws = Q at *
    simp [runD_def, cb_people, List.replicate, ce, hcall, w4, c1, c2]
  rw [key]
  exact RL.mk' (l := [.lst _, .lst _]) rfl
/-! ### a fresh word -/
def HFresh (T : Tb) (f : Nat) : Prop := ∀ (n : Int) (known : List Str), known.length < 1000 → ∃ w, isNm w ∧ w ∉ known ∧ RV (T.fs f [] [.v (.int n), .v (.lst (sD known))]) (.str w)
theorem notinV_str (T : Tb) (w : Str) (ws : List Str) (S : Sto) : cmpW T .notin (.v (.str w)) (.v (.lst (sD ws))) S = .ok (.v (.bl (!decide (w ∈ ws)))) S := by
  rw [cmpW_plain T .notin _ _ S rfl rfl]
  unfold cmpD
  dsimp only
  rw [if_pos ⟨rfl, dat_strs ws⟩, inD_str, opt_some]
  rfl
theorem fresh_loop (T : Tb) (fw : Nat) (hw : HWord T fw) (n : Int) (known : List Str) (w : W) (p : Bool × List W) (hq : ∀ S, sqOf S w = some p) : ∀ (m k : Nat) (s2 s3 : Option W), (∃ x, isNm x ∧ x ∉ known ∧ forW (lpS (execs T (cb_fresh_l1 fw)) 2) w p ((rangeD k m).map W.v) [some (.v (.int n)), some (.v (.lst (sD known))), s2, s3] [] = .rt (.v (.str x)) []) ∨ ∀ j : Nat, k ≤ j → j < k + m → wordOf (n + j) ∈ known
  | 0, k, s2, s3 => .inr fun j h1 h2 => by omega
  | m + 1, k, s2, s3 => by
    have hc := hw.call (n + k) []
    have hi := notinV_str T (wordOf (n + k)) known []
    by_cases h : wordOf (n + k) ∈ known
    · have st : lpS (execs T (cb_fresh_l1 fw)) 2 (.v (.int k)) [some (.v (.int n)), some (.v (.lst (sD known))), s2, s3] [] = .nx [some (.v (.int n)), some (.v (.lst (sD known))), some (.v (.int k)), some (.v (.str (wordOf (n + k))))] [] := by
        simp only [h, decide_true, Bool.not_true] at hi
        generalize sD known = K at *
        simp [cb_fresh_l1, hc, hi]
      rcases fresh_loop T fw hw n known w p hq m (k + 1) (some (.v (.int k))) (some (.v (.str (wordOf (n + k))))) with ⟨x, h1, h2, h3⟩ | h3
      · refine .inl ⟨x, h1, h2, ?_⟩
        rw [rangeD_succ]
        exact (forW_cons st (hq _)).trans h3
      · refine .inr fun j a b => ?_
        by_cases e : j = k
        · subst e; exact h
        · exact h3 j (by omega) (by omega)
    · refine .inl ⟨wordOf (n + k), word_nm _, h, ?_⟩
      rw [rangeD_succ]
      simp only [List.map_cons]
      rw [forW]
      simp only [h, decide_false, Bool.not_false] at hi
      generalize sD known = K at *
      simp [cb_fresh_l1, hc, hi]
theorem fresh_spec (T : Tb) (fw : Nat) (hw : HWord T fw) (n : Int) (known : List Str) (hl : known.length < 1000) : ∃ w, isNm w ∧ w ∉ known ∧ RV (runD T 4 (cb_fresh fw) [] [.v (.int n), .v (.lst (sD known))]) (.str w) := by
  rcases fresh_loop T fw hw n known (.v (.tup (rangeD 0 (known.length + 1)))) (false, (rangeD 0 (known.length + 1)).map W.v) (fun S => sqOf_t S _) (known.length + 1) 0 none none with ⟨x, h1, h2, h3⟩ | h
  · refine ⟨x, h1, h2, [], ?_⟩
    have k1 : ((known.length : Int) + 1) < 4611686018427387904 := by omega
    have k2 : -4611686018427387904 ≤ ((known.length : Int) + 1) := by omega
    have hlen : (sD known).length = known.length := by simp
    have et : ((known.length : Int) + 1).toNat = known.length + 1 := by omega
    simp only [Int.natCast_zero] at h3
    rw [← hlen] at k1 k2 et h3
    generalize sD known = K at *
    simp [runD_def, cb_fresh, List.replicate, k1, k2, et, h3]
  · exfalso
    have hn : ((List.range (known.length + 1)).map fun j : Nat => wordOf (n + j)).Nodup := by
      rw [List.Nodup, List.pairwise_map]
      refine List.Pairwise.imp_of_mem ?_ (List.nodup_range (n := known.length + 1))
      intro a b ha hb hab e
      have := word_inj e
      have ha := List.mem_range.mp ha
      have hb := List.mem_range.mp hb
      omega
    have := nodup_len hn (m := known) (fun x hx => by
      obtain ⟨j, hj, rfl⟩ := List.mem_map.mp hx
      have := List.mem_range.mp hj
      exact h j (by omega) (by omega))
    rw [List.length_map, List.length_range] at this
    omega
/-! ### names -/
def isNmB (s : Str) : Bool := decide (1 ≤ (cs s).length) && (decide ((cs s).length ≤ 8) && (cs s).all fun c => decide (c ∈ letters))
theorem mem_letters {c : Nat} : c ∈ letters ↔ 97 ≤ c ∧ c ≤ 122 := by
  unfold letters
  simp only [List.mem_map, List.mem_range]
  constructor
  · rintro ⟨k, hk, rfl⟩; omega
  · intro h; exact ⟨c - 97, by omega, by omega⟩
theorem isNmB_iff {s : Str} : isNmB s = true ↔ isNm s := by
  simp only [isNmB, isNm, Bool.and_eq_true, decide_eq_true_eq, List.all_eq_true, mem_letters]
def HIsName (T : Tb) (f : Nat) : Prop := ∀ w : Str, (cs w).length < 100000 → RV (T.fs f [] [.v (.str w)]) (.bl (isNmB w))
theorem boolsOf_map {α : Type} (f : α → Bool) (l : List α) : boolsOf (l.map fun x => D.bl (f x)) = some (l.map f) := by
  induction l with
  | nil => rfl
  | cons a l ih => simp [boolsOf, ih]
theorem all_bl {α : Type} (T : Tb) (f : α → Bool) (l : List α) (S : Sto) : biW T .all (.v (.lst (l.map fun x => D.bl (f x)))) S = .ok (.v (.bl (l.all f))) S := by
  unfold biW
  simp only [listOf_l, opt_some, unV_mapv, boolsOf_map]
  simp [List.all_map]
theorem any_bl {α : Type} (T : Tb) (f : α → Bool) (l : List α) (S : Sto) : biW T .any (.v (.lst (l.map fun x => D.bl (f x)))) S = .ok (.v (.bl (l.any f))) S := by
  unfold biW
  simp only [listOf_l, opt_some, unV_mapv, boolsOf_map]
  simp [List.any_map]
theorem in_chr (T : Tb) (c : Nat) (z : Str) (S : Sto) : cmpW T .isin (.v (.str (chr1 c))) (.v (.str z)) S = .ok (.v (.bl (decide (c ∈ cs z)))) S := by
  rw [cmpW_plain T .isin _ _ S rfl rfl]
  rfl
theorem is_name_spec (T : Tb) (gm gl : Nat) (hm : T.cs gm = some (.int 8)) (hg : T.cs gl = some (.str "abcdefghijklmnopqrstuvwxyz")) (w : Str) (hw : (cs w).length < 100000) : RV (runD T 2 (cb_is_name gm gl) [] [.v (.str w)]) (.bl (isNmB w)) := by
  have hlen : w.length = (cs w).length := len_cs w
  have hz : w.length ≤ 16777216 := by omega
  refine ⟨[], ?_⟩
  unfold isNmB
  rw [← hlen]
  by_cases h1 : 1 ≤ w.length
  · by_cases h2 : w.length ≤ 8
    · have lc := lc_mapD (fe := ev T (cb_is_name_e1 gl)) (Γ := [some (.v (.str w)), none]) (i := 1) (S := []) (w := .v (.tup ((cs w).map fun c => .str (chr1 c)))) (l := (cs w).map fun c => .str (chr1 c)) (g := fun d => match d with | .str z => .bl (decide ((cs z).headD 0 ∈ letters)) | _ => .non) rfl (fun d hd => by
        obtain ⟨c, _, rfl⟩ := List.mem_map.mp hd
        have := in_chr T c (mkS letters) []
        rw [show cs (mkS letters) = letters from cs_mkS _] at this
        have e0 : (cs (chr1 c)).headD 0 = c := rfl
        simp [cb_is_name_e1, hg, lett_eq, this]
        rfl) (by rw [List.length_map, ← hlen]; exact hz)
      have e2 : ((cs w).map fun c => D.str (chr1 c)).map (fun d => match d with | .str z => D.bl (decide ((cs z).headD 0 ∈ letters)) | _ => .non) = (cs w).map fun c => D.bl (decide (c ∈ letters)) := by
        rw [List.map_map]
        apply List.map_congr_left
        intro c _
        rfl
      rw [e2] at lc
      have al := all_bl T (fun c => decide (c ∈ letters)) (cs w) []
      simp only [List.length_nil, List.nil_append] at lc
      have h1' : (1 : Int) ≤ w.length := by omega
      have h2' : (w.length : Int) ≤ 8 := by omega
      generalize hA : (cs w).map (fun c => D.bl (decide (c ∈ letters))) = A at *
      generalize (cs w).all (fun c => decide (c ∈ letters)) = bb at *
      simp [runD_def, cb_is_name, List.replicate, hz, hm, h1, h2, h1', h2', lc, al]
    · have h2' : ¬ (w.length : Int) ≤ 8 := by omega
      have h1' : (1 : Int) ≤ w.length := by omega
      simp [runD_def, cb_is_name, List.replicate, hz, hm, h1, h2, h1', h2']
  · have h1' : ¬ (1 : Int) ≤ w.length := by omega
    simp [runD_def, cb_is_name, List.replicate, hz, hm, h1, h1']
end NV

namespace NV
open PySem L2
/-! ### results with cells in cells -/
theorem rdf_shift (k : Nat) (S S' : Sto) (hk : S.length = k) : ∀ (j : Nat), (∀ w, rdf k (S ++ S'.map (shC k)) j (shW k w) = rdf 0 S' j w) ∧ (∀ l, rdfs k (S ++ S'.map (shC k)) j (l.map (shW k)) = rdfs 0 S' j l) := by
  have step : ∀ j, (∀ w, rdf k (S ++ S'.map (shC k)) j (shW k w) = rdf 0 S' j w) → ∀ l, rdfs k (S ++ S'.map (shC k)) j (l.map (shW k)) = rdfs 0 S' j l := fun j h l => by
    induction l with
    | nil => simp [rdfs]
    | cons w l ih =>
      simp only [List.map_cons]
      rw [rdfs, rdfs, h w, ih]
  intro j
  induction j with
  | zero =>
    have h : ∀ w, rdf k (S ++ S'.map (shC k)) 0 (shW k w) = rdf 0 S' 0 w := fun w => by cases w <;> simp [shW, rdf]
    exact ⟨h, step 0 h⟩
  | succ j ih =>
    have h : ∀ w, rdf k (S ++ S'.map (shC k)) (j + 1) (shW k w) = rdf 0 S' (j + 1) w := fun w => by
      cases w with
      | v d => simp [shW, rdf]
      | r n =>
        simp only [shW]
        rw [rdf, rdf, if_neg (by omega), if_neg (by omega)]
        have e : (S ++ S'.map (shC k))[n + k]? = (S'[n]?).map (shC k) := by
          rw [List.getElem?_append_right (by omega), show n + k - S.length = n from by omega, List.getElem?_map]
        rw [e]
        cases S'[n]? with
        | none => rfl
        | some c => cases c <;> simp [shC, ih.2]
    exact ⟨h, step (j + 1) h⟩
/-- a new tree -/
def RT (o : Out W) (d : D) : Prop := ∃ n S', o = .ok (.r n) S' ∧ rdf 0 S' 4 (.r n) = some d
theorem RT.frz {T : Tb} {f : Nat} {ds : List D} {d : D} (h : RT (T.fs f [] (ds.map W.v)) d) (S : Sto) (hS : closed S = true) : (NV.callW T f (ds.map W.v) S).bind (frzW S.length) = .ok (.v d) S := by
  obtain ⟨n, S', h, hd⟩ := h
  unfold NV.callW
  rw [unV_mapv, h]
  show (emb S (.r n) S').bind (frzW S.length) = _
  unfold emb
  dsimp only
  cases hc : S'[n]? with
  | none => rw [rdf, if_neg (by omega), hc] at hd; cases hd
  | some c =>
    dsimp only
    by_cases ht : c.tree.isSome = true
    · rw [if_pos ht]
      cases hct : c.tree with
      | none => rw [hct] at ht; cases ht
      | some d' =>
        have := rdf_tree (k := 0) (Nat.zero_le n) hc hct
        rw [hd] at this
        cases this
        exact frz_new hS hct
    · rw [if_neg ht]
      show frzW S.length (.r (n + S.length)) (S ++ S'.map (shC S.length)) = _
      unfold frzW
      dsimp only
      have := (rdf_shift S.length S S' rfl 4).1 (.r n)
      simp only [shW] at this
      rw [this, hd, opt_some, cut_app hS]
      rfl
theorem rdf_two (a b : List D) : rdf 0 [.lst (a.map W.v), .lst (b.map W.v), .lst [.r 0, .r 1]] 4 (.r 2) = some (.lst [.lst a, .lst b]) := by
  have key : ∀ (S : Sto) (j : Nat) (l : List D), rdfs 0 S j (l.map W.v) = some l := fun S j l => by
    induction l with
    | nil => simp [rdfs]
    | cons d l ih =>
      simp only [List.map_cons]
      rw [rdfs, ih]
      cases j <;> simp [rdf]
  simp [rdf, rdfs, key]
/-! ### lists without repetition -/
theorem set_perm {α : Type} {a : List α} {i : Nat} {y : α} (h : i < a.length) : (a.set i y).Perm (y :: a.eraseIdx i) := by
  rw [List.set_eq_take_append_cons_drop, if_pos h, List.eraseIdx_eq_take_drop_succ]
  exact List.perm_middle
theorem self_perm {α : Type} {a : List α} {i : Nat} (h : i < a.length) : a.Perm (a[i] :: a.eraseIdx i) := by
  have := set_perm (y := a[i]) h
  rwa [List.set_getElem_self] at this
theorem swap_perm {α : Type} {a : List α} {i j : Nat} (hi : i < a.length) (hj : j < a.length) (hij : i ≠ j) : ((a.set i a[j]).set j a[i]).Perm a := by
  have h1 : ((a.set i a[j]).set j a[i]).Perm (a[i] :: (a.set i a[j]).eraseIdx j) := set_perm (by simpa using hj)
  have h2 : (a.set i a[j]).Perm ((a.set i a[j])[j]'(by simpa using hj) :: (a.set i a[j]).eraseIdx j) := self_perm (by simpa using hj)
  rw [List.getElem_set_ne (by omega)] at h2
  have h3 : (a.set i a[j]).Perm (a[j] :: a.eraseIdx i) := set_perm hi
  have h4 := List.Perm.cons_inv (h2.symm.trans h3)
  exact h1.trans ((h4.cons _).trans (self_perm hi).symm)
theorem ins_perm {α : Type} {a : List α} {i : Nat} {y : α} : (a.take i ++ y :: a.drop i).Perm (y :: a) := by
  refine List.perm_middle.trans ?_
  rw [List.take_append_drop]
theorem Ppl.perm {mf mn : Nat} {fam nei f' n' : List Str} (h : Ppl mf mn fam nei) (p : (f' ++ n').Perm (fam ++ nei)) (h1 : 1 ≤ f'.length) (h2 : f'.length ≤ mf) (h3 : 1 ≤ n'.length) (h4 : n'.length ≤ mn) : Ppl mf mn f' n' :=
  ⟨h1, h2, h3, h4, fun w hw => h.nm w (p.mem_iff.mp hw), p.nodup_iff.mpr h.nd⟩
theorem Ppl.more {mf mn : Nat} {fam nei f' n' : List Str} {w : Str} (h : Ppl mf mn fam nei) (hw : isNm w) (hn : w ∉ fam ++ nei) (p : (f' ++ n').Perm (w :: (fam ++ nei))) (h1 : 1 ≤ f'.length) (h2 : f'.length ≤ mf) (h3 : 1 ≤ n'.length) (h4 : n'.length ≤ mn) : Ppl mf mn f' n' :=
  ⟨h1, h2, h3, h4, fun x hx => by
    rcases List.mem_cons.mp (p.mem_iff.mp hx) with rfl | q
    · exact hw
    · exact h.nm x q, p.nodup_iff.mpr (List.nodup_cons.mpr ⟨hn, h.nd⟩)⟩
theorem Ppl.sub {mf mn : Nat} {fam nei f' n' : List Str} (h : Ppl mf mn fam nei) (p : (f' ++ n').Sublist (fam ++ nei)) (h1 : 1 ≤ f'.length) (h2 : f'.length ≤ mf) (h3 : 1 ≤ n'.length) (h4 : n'.length ≤ mn) : Ppl mf mn f' n' :=
  ⟨h1, h2, h3, h4, fun w hw => h.nm w (p.subset hw), h.nd.sublist p⟩
/-- one name exchanged for a fresh one -/
theorem Ppl.exch {mf mn : Nat} {fam nei f' n' r : List Str} {w : Str} (h : Ppl mf mn fam nei) (hw : isNm w) (hn : w ∉ fam ++ nei) (hr : r.Sublist (fam ++ nei)) (p : (f' ++ n').Perm (w :: r)) (h1 : 1 ≤ f'.length) (h2 : f'.length ≤ mf) (h3 : 1 ≤ n'.length) (h4 : n'.length ≤ mn) : Ppl mf mn f' n' :=
  ⟨h1, h2, h3, h4, fun x hx => by
    rcases List.mem_cons.mp (p.mem_iff.mp hx) with rfl | q
    · exact hw
    · exact h.nm x (hr.subset q), p.nodup_iff.mpr (List.nodup_cons.mpr ⟨fun q => hn (hr.subset q), h.nd.sublist hr⟩)⟩
/-! ### the street near by -/
def cb_near_p1 : CB := (.cons (.ite (.and (.cmp .eq (.idx (.var 4) (.int 0)) (.int 1)) (.cmp .gt (.bi .len (.var 7)) (.int 1))) (.cons (.set 9 (.idx (.var 7) (.var 8))) (.cons (.sidx (.var 7) (.var 8) (.idx (.var 7) (.bin .sub (.var 8) (.int 1)))) (.cons (.sidx (.var 7) (.bin .sub (.var 8) (.int 1)) (.var 9)) .nil))) (.cons (.ite (.and (.cmp .eq (.idx (.var 4) (.int 0)) (.int 2)) (.cmp .gt (.bi .len (.var 7)) (.int 1))) (.cons (.del (.var 7) (.so (.var 8))) .nil) (.cons (.ite (.and (.cmp .eq (.idx (.var 4) (.int 0)) (.int 3)) (.cmp .lt (.bi .len (.var 7)) (.idx (.frz (.lst (.cons (.int 4) (.cons (.int 8) .nil)))) (.idx (.var 4) (.int 1))))) (.cons (.ins (.var 7) (.var 8) (.var 5)) .nil) (.cons (.ite (.and (.cmp .eq (.idx (.var 4) (.int 0)) (.int 4)) (.and (.cmp .gt (.bi .len (.idx (.var 6) (.int 0))) (.int 1)) (.cmp .lt (.bi .len (.idx (.var 6) (.int 1))) (.int 8)))) (.cons (.setp 9 (.idx (.var 6) (.int 0)) .no) (.cons (.ins (.idx (.var 6) (.int 1)) (.int 0) (.var 9)) .nil)) (.cons (.ite (.and (.cmp .eq (.idx (.var 4) (.int 0)) (.int 5)) (.and (.cmp .gt (.bi .len (.idx (.var 6) (.int 1))) (.int 1)) (.cmp .lt (.bi .len (.idx (.var 6) (.int 0))) (.int 4)))) (.cons (.setp 9 (.idx (.var 6) (.int 1)) (.so (.int 0))) (.cons (.app (.idx (.var 6) (.int 0)) (.var 9)) .nil)) (.cons (.sidx (.var 7) (.var 8) (.var 5)) .nil)) .nil)) .nil)) .nil)) .nil)) (.cons (.ret (.var 6)) .nil))
def cb_near (f_draw f_fresh : Nat) : CB := (.cons (.set 4 (.frz (.call f_draw (.cons (.var 0) (.cons (.var 1) (.cons (.frz (.lst (.cons (.int 7) (.cons (.int 2) (.cons (.int 8) (.cons (.int 217180147158) .nil)))))) .nil))) []))) (.cons (.set 5 (.frz (.call f_fresh (.cons (.idx (.var 4) (.int 3)) (.cons (.frz (.bin .add (.var 2) (.var 3))) .nil)) []))) (.cons (.set 6 (.lst (.cons (.bi .list (.var 2)) (.cons (.bi .list (.var 3)) .nil)))) (.cons (.ite (.cmp .eq (.idx (.var 4) (.int 0)) (.int 0)) (.cons (.ret (.var 6)) .nil) .nil) (.cons (.set 7 (.idx (.var 6) (.idx (.var 4) (.int 1)))) (.cons (.set 8 (.bin .mod (.bi .int (.idx (.var 4) (.int 2))) (.bi .len (.var 7)))) cb_near_p1))))))

@[simp] theorem pop1_def (Γ : Env') (i : Option Nat) (mo : Sto → Out (Option Int)) (x : W) (S : Sto) : pop1 Γ i mo x S = optS (listOf S x) fun _ => liftE Γ (mo S) (pop2 Γ i x) := id rfl
def poC (Γ : Env') (i : Option Nat) (o : Option Int) (S : Sto) (n : Nat) : Option Cell → SOut
  | some (.lst l) => optS (popI l.length o) fun j => optS l[j]? fun w => .nx (putE i w Γ) (S.set n (.lst (l.eraseIdx j)))
  | _ => .bad
@[simp] theorem poC_l (Γ : Env') (i : Option Nat) (o : Option Int) (S : Sto) (n : Nat) (l : List W) : poC Γ i o S n (some (.lst l)) = optS (popI l.length o) fun j => optS l[j]? fun w => .nx (putE i w Γ) (S.set n (.lst (l.eraseIdx j))) := id rfl
@[simp] theorem pop2_r (Γ : Env') (i : Option Nat) (n : Nat) (o : Option Int) (S : Sto) : pop2 Γ i (.r n) o S = poC Γ i o S n S[n]? := by
  cases h : S[n]? with
  | none => simp only [pop2, poC, h]
  | some c => cases c <;> simp only [pop2, poC, h]
@[simp] theorem putE_some (i : Nat) (w : W) (Γ : Env') : putE (some i) w Γ = Γ.set i (some w) := id rfl
@[simp] theorem putE_none (w : W) (Γ : Env') : putE none w Γ = Γ := id rfl
theorem popI_k {n k : Nat} (h : k < n) (hb : n < 1000000) : popI n (some (k : Int)) = some k := by
  unfold popI
  dsimp only
  rw [if_pos ⟨by omega, by omega⟩]
  unfold ixN
  rw [if_pos (by omega), if_pos (by omega)]
  simp
theorem popI_n {n : Nat} (h : 0 < n) : popI n none = some (n - 1) := by
  unfold popI ixN
  dsimp only
  rw [if_neg (by decide), if_pos (by omega)]
  congr 1
  omega
@[simp] theorem ins1_def (Γ : Env') (mi me : Sto → Out W) (x : W) (S : Sto) : ins1 Γ mi me x S = optS (listOf S x) fun _ => liftE Γ (mi S) (ins2 Γ me x) := id rfl
@[simp] theorem ins2_def (Γ : Env') (me : Sto → Out W) (x y : W) (S : Sto) : ins2 Γ me x y S = liftE Γ (me S) (ins3 Γ x y) := id rfl
def inC (Γ : Env') (S : Sto) (n : Nat) (k : Int) (w : W) : Option Cell → SOut
  | some (.lst l) => optS (insF k w l) fun l' => .nx Γ (S.set n (.lst l'))
  | _ => .bad
@[simp] theorem inC_l (Γ : Env') (S : Sto) (n : Nat) (k : Int) (w : W) (l : List W) : inC Γ S n k w (some (.lst l)) = optS (insF k w l) fun l' => .nx Γ (S.set n (.lst l')) := id rfl
@[simp] theorem ins3_r (Γ : Env') (n : Nat) (k : Int) (w : W) (S : Sto) : ins3 Γ (.r n) (.v (.int k)) w S = inC Γ S n k w S[n]? := by
  cases h : S[n]? with
  | none => simp only [ins3, intW_int, optS_some, mutL, inC, h]
  | some c => cases c <;> simp only [ins3, intW_int, optS_some, mutL, inC, h]
theorem insF_k {k : Nat} {w : W} {l : List W} (h : k ≤ l.length) (hl : l.length < 16777216) : insF (k : Int) w l = some (l.take k ++ w :: l.drop k) := by
  unfold insF
  rw [if_pos ⟨by omega, by omega, by rw [sizeLine_n]; exact hl⟩]
  simp
abbrev wS (l : List Str) : List W := l.map fun s => W.v (D.str s)
theorem wS_erase (l : List Str) (k : Nat) : wS (l.eraseIdx k) = (wS l).eraseIdx k := by
  rw [List.eraseIdx_eq_take_drop_succ, List.eraseIdx_eq_take_drop_succ]
  simp [List.map_take, List.map_drop]
theorem wS_sD (l : List Str) : (sD l).map W.v = wS l := by simp [Function.comp_def]
/-- the place before, the last one before the first -/
def prev (n k : Nat) : Nat := if k = 0 then n - 1 else k - 1
theorem atI_prev {l : List W} {k : Nat} (h : k < l.length) : atI l ((k : Int) - 1) = l[prev l.length k]? := by
  unfold prev
  by_cases e : k = 0
  · subst e
    rw [if_pos rfl]
    have : ((0 : Nat) : Int) - 1 = -1 := rfl
    rw [this, atI_last, List.getLast?_eq_getElem?]
  · rw [if_neg e, atI_int _ (by omega)]
    congr 1
    omega
theorem sixF_prev {l : List W} {k : Nat} {w : W} (h : k < l.length) : sixF ((k : Int) - 1) w l = some (l.set (prev l.length k) w) := by
  unfold prev sixF ixN
  by_cases e : k = 0
  · subst e
    rw [if_pos rfl, if_neg (by decide), if_pos (by omega)]
    simp only
    congr 2
    omega
  · rw [if_neg e, if_pos (by omega), if_pos (by omega)]
    simp only
    congr 2
    omega
theorem prev_lt {n k : Nat} (h : k < n) : prev n k < n := by unfold prev; split <;> omega
theorem prev_ne {n k : Nat} (h : k < n) (hn : 1 < n) : k ≠ prev n k := by unfold prev; split <;> omega
/-- the chain, at one of the two rows -/
theorem near_p1_0 (T : Tb) (c sa f0 n0 : Option W) (fam nei : List Str) (fr : Str) (x0 x1 x2 x3 : Int) (k : Nat) (hk : k < fam.length) (hx1 : x1 = 0) (hp : Ppl 4 8 fam nei) (hf : isNm fr) (hn : fr ∉ fam ++ nei) :
    ∃ fam' nei', Ppl 4 8 fam' nei' ∧ execs T cb_near_p1 0 [c, sa, f0, n0, some (.v (.lst [.int x0, .int x1, .int x2, .int x3])), some (.v (.str fr)), some (.r 2), some (.r 0), some (.v (.int k)), none] [.lst (wS fam), .lst (wS nei), .lst [.r 0, .r 1]] = .rt (.r 2) [.lst (wS fam'), .lst (wS nei'), .lst [.r 0, .r 1]] := by
  subst hx1
  have f1 := hp.f1; have f2 := hp.f2; have n1 := hp.n1; have n2 := hp.n2
  have hl : (wS fam).length = fam.length := by simp
  have hm : (wS nei).length = nei.length := by simp
  have gk : (wS fam)[k]? = some (.v (.str fam[k])) := by simp [hk]
  have pk := prev_lt hk
  have gp : atI (wS fam) ((k : Int) - 1) = some (.v (.str fam[prev fam.length k])) := by rw [atI_prev (by rw [hl]; exact hk), hl]; simp [pk]
  have z4 : frzW 3 (.r 3) [.lst (wS fam), .lst (wS nei), .lst [.r 0, .r 1], .lst [.v (.int 4), .v (.int 8)]] = .ok (.v (.lst [.int 4, .int 8])) [.lst (wS fam), .lst (wS nei), .lst [.r 0, .r 1]] := by simp
  by_cases e1 : x0 = 1 ∧ 1 < fam.length
  · obtain ⟨rfl, h1⟩ := e1
    refine ⟨(fam.set k fam[prev fam.length k]).set (prev fam.length k) fam[k], nei, hp.perm ((swap_perm hk pk (prev_ne hk h1)).append_right _) (by simp; omega) (by simp; omega) n1 n2, ?_⟩
    have s1 := sixF_int (l := wS fam) (w := .v (.str fam[prev fam.length k])) (k := (k : Int)) (by omega) (by simpa using hk)
    have s2 := sixF_prev (l := (wS fam).set k (.v (.str fam[prev fam.length k]))) (w := .v (.str fam[k])) (k := k) (by simpa using hk)
    rw [List.length_set, hl] at s2
    have e9 : wS ((fam.set k fam[prev fam.length k]).set (prev fam.length k) fam[k]) = ((wS fam).set k (.v (.str fam[prev fam.length k]))).set (prev fam.length k) (.v (.str fam[k])) := by simp [List.map_set]
    rw [e9]
    rw [← hl] at h1
    rw [Int.toNat_natCast] at s1
    generalize wS fam = L at *
    generalize wS nei = N at *
    have h1' : (1 : Int) < (L.length : Int) := by omega
    simp [cb_near_p1, h1, h1', gk, gp, s1, s2]
  · by_cases e2 : x0 = 2 ∧ 1 < fam.length
    · obtain ⟨rfl, h1⟩ := e2
      refine ⟨fam.eraseIdx k, nei, hp.sub (List.Sublist.append (List.eraseIdx_sublist _ _) (List.Sublist.refl _)) (by rw [List.length_eraseIdx, if_pos hk]; omega) (by rw [List.length_eraseIdx, if_pos hk]; omega) n1 n2, ?_⟩
      have s1 := popI_k (n := (wS fam).length) (k := k) (by rw [hl]; exact hk) (by rw [hl]; omega)
      have e9 : wS (fam.eraseIdx k) = (wS fam).eraseIdx k := wS_erase _ _
      rw [e9]
      rw [← hl] at h1
      generalize wS fam = L at *
      generalize wS nei = N at *
      have h1' : (1 : Int) < (L.length : Int) := by omega
      simp [cb_near_p1, h1, h1', s1, gk]
    · by_cases e3 : x0 = 3 ∧ fam.length < 4
      · obtain ⟨rfl, h1⟩ := e3
        refine ⟨fam.take k ++ fr :: fam.drop k, nei, hp.more hf hn ((ins_perm.append_right _).trans (by simp)) (by simp; omega) (by simp; omega) n1 n2, ?_⟩
        have s1 := insF_k (k := k) (w := .v (.str fr)) (l := wS fam) (by rw [hl]; omega) (by rw [hl]; omega)
        have e9 : wS (fam.take k ++ fr :: fam.drop k) = (wS fam).take k ++ .v (.str fr) :: (wS fam).drop k := by simp [List.map_take, List.map_drop]
        rw [e9]
        rw [← hl] at h1
        generalize wS fam = L at *
        generalize wS nei = N at *
        have h1' : (L.length : Int) < 4 := by omega
        simp [cb_near_p1, h1, h1', s1, z4]
      · by_cases e4 : x0 = 4 ∧ 1 < fam.length ∧ nei.length < 8
        · obtain ⟨rfl, h1, h2⟩ := e4
          have hlast : fam.length - 1 < fam.length := by omega
          refine ⟨fam.eraseIdx (fam.length - 1), fam[fam.length - 1] :: nei, hp.perm ?_ (by rw [List.length_eraseIdx, if_pos hlast]; omega) (by rw [List.length_eraseIdx, if_pos hlast]; omega) (by simp) (by simp; omega), ?_⟩
          · exact List.perm_middle.trans (((self_perm hlast).symm.append_right _))
          have s1 := popI_n (n := (wS fam).length) (by rw [hl]; omega)
          have g1 : (wS fam)[(wS fam).length - 1]? = some (.v (.str fam[fam.length - 1])) := by rw [hl]; simp [hlast]
          have s2 := insF_k (k := 0) (w := .v (.str fam[fam.length - 1])) (l := wS nei) (by omega) (by rw [hm]; omega)
          have e9 : wS (fam.eraseIdx (fam.length - 1)) = (wS fam).eraseIdx ((wS fam).length - 1) := by rw [hl]; exact wS_erase _ _
          have e8 : wS (fam[fam.length - 1] :: nei) = (wS nei).take 0 ++ .v (.str fam[fam.length - 1]) :: (wS nei).drop 0 := by simp
          rw [e9, e8]
          rw [← hl] at h1
          rw [← hm] at h2
          generalize wS fam = L at *
          generalize wS nei = N at *
          have h1' : (1 : Int) < (L.length : Int) := by omega
          have h2' : (N.length : Int) < 8 := by omega
          simp only [Int.natCast_zero] at s2
          simp [cb_near_p1, h1, h1', h2, h2', s1, g1, s2]
        · by_cases e5 : x0 = 5 ∧ 1 < nei.length ∧ fam.length < 4
          · obtain ⟨rfl, h1, h2⟩ := e5
            have h0 : 0 < nei.length := by omega
            refine ⟨fam ++ [nei[0]], nei.eraseIdx 0, hp.perm ?_ (by simp) (by simp; omega) (by rw [List.length_eraseIdx, if_pos h0]; omega) (by rw [List.length_eraseIdx, if_pos h0]; omega), ?_⟩
            · rw [List.append_assoc]
              exact List.Perm.append_left _ (self_perm h0).symm
            have s1 := popI_k (n := (wS nei).length) (k := 0) (by rw [hm]; exact h0) (by rw [hm]; omega)
            have g1 : (wS nei)[0]? = some (.v (.str nei[0])) := by simp [h0]
            have e9 : wS (nei.eraseIdx 0) = (wS nei).eraseIdx 0 := wS_erase _ _
            have e8 : wS (fam ++ [nei[0]]) = wS fam ++ [.v (.str nei[0])] := by simp
            rw [e9, e8]
            have hz : (wS fam).length < 16777216 := by rw [hl]; omega
            rw [← hm] at h1
            rw [← hl] at h2
            generalize wS fam = L at *
            generalize wS nei = N at *
            have h1' : (1 : Int) < (N.length : Int) := by omega
            have h2' : (L.length : Int) < 4 := by omega
            simp only [Int.natCast_zero] at s1
            simp [cb_near_p1, h1, h1', h2, h2', s1, g1, hz]
          · refine ⟨fam.set k fr, nei, hp.exch hf hn (r := fam.eraseIdx k ++ nei) (List.Sublist.append (List.eraseIdx_sublist _ _) (List.Sublist.refl _)) ((set_perm hk).append_right _) (by simp; omega) (by simp; omega) n1 n2, ?_⟩
            have s1 := sixF_int (l := wS fam) (w := .v (.str fr)) (k := (k : Int)) (by omega) (by simpa using hk)
            rw [Int.toNat_natCast] at s1
            have e9 : wS (fam.set k fr) = (wS fam).set k (.v (.str fr)) := by simp [List.map_set]
            rw [e9]
            rw [← hl] at e1 e2 e3 e4 e5
            rw [← hm] at e4 e5
            generalize wS fam = L at *
            generalize wS nei = N at *
            by_cases q1 : x0 = 1
            · have h : ¬ (1 : Int) < (L.length : Int) := fun z => e1 ⟨q1, by omega⟩
              have h' : ¬ 1 < L.length := by omega
              simp [cb_near_p1, q1, h, h', s1]
            · by_cases q2 : x0 = 2
              · have h : ¬ (1 : Int) < (L.length : Int) := fun z => e2 ⟨q2, by omega⟩
                have h' : ¬ 1 < L.length := by omega
                simp [cb_near_p1, q2, h, h', s1]
              · by_cases q3 : x0 = 3
                · have h : ¬ (L.length : Int) < 4 := fun z => e3 ⟨q3, by omega⟩
                  have h' : ¬ L.length < 4 := by omega
                  simp [cb_near_p1, q3, h, h', s1, z4]
                · by_cases q4 : x0 = 4
                  · by_cases h : (1 : Int) < (L.length : Int)
                    · have h' : 1 < L.length := by omega
                      have h2 : ¬ (N.length : Int) < 8 := fun z => e4 ⟨q4, by omega, by omega⟩
                      have h2' : ¬ N.length < 8 := by omega
                      simp [cb_near_p1, q4, h, h', h2, h2', s1]
                    · have h' : ¬ 1 < L.length := by omega
                      simp [cb_near_p1, q4, h, h', s1]
                  · by_cases q5 : x0 = 5
                    · by_cases h : (1 : Int) < (N.length : Int)
                      · have h' : 1 < N.length := by omega
                        have h2 : ¬ (L.length : Int) < 4 := fun z => e5 ⟨q5, by omega, by omega⟩
                        have h2' : ¬ L.length < 4 := by omega
                        simp [cb_near_p1, q5, h, h', h2, h2', s1]
                      · have h' : ¬ 1 < N.length := by omega
                        simp [cb_near_p1, q5, h, h', s1]
                    · simp [cb_near_p1, q1, q2, q3, q4, q5, s1]
theorem near_p1_1 (T : Tb) (c sa f0 n0 : Option W) (fam nei : List Str) (fr : Str) (x0 x1 x2 x3 : Int) (k : Nat) (hk : k < nei.length) (hx1 : x1 = 1) (hp : Ppl 4 8 fam nei) (hf : isNm fr) (hn : fr ∉ fam ++ nei) :
    ∃ fam' nei', Ppl 4 8 fam' nei' ∧ execs T cb_near_p1 0 [c, sa, f0, n0, some (.v (.lst [.int x0, .int x1, .int x2, .int x3])), some (.v (.str fr)), some (.r 2), some (.r 1), some (.v (.int k)), none] [.lst (wS fam), .lst (wS nei), .lst [.r 0, .r 1]] = .rt (.r 2) [.lst (wS fam'), .lst (wS nei'), .lst [.r 0, .r 1]] := by
  subst hx1
  have f1 := hp.f1; have f2 := hp.f2; have n1 := hp.n1; have n2 := hp.n2
  have hl : (wS fam).length = fam.length := by simp
  have hm : (wS nei).length = nei.length := by simp
  have gk : (wS nei)[k]? = some (.v (.str nei[k])) := by simp [hk]
  have pk := prev_lt hk
  have gp : atI (wS nei) ((k : Int) - 1) = some (.v (.str nei[prev nei.length k])) := by rw [atI_prev (by rw [hm]; exact hk), hm]; simp [pk]
  have z4 : frzW 3 (.r 3) [.lst (wS fam), .lst (wS nei), .lst [.r 0, .r 1], .lst [.v (.int 4), .v (.int 8)]] = .ok (.v (.lst [.int 4, .int 8])) [.lst (wS fam), .lst (wS nei), .lst [.r 0, .r 1]] := by simp
  by_cases e1 : x0 = 1 ∧ 1 < nei.length
  · obtain ⟨rfl, h1⟩ := e1
    refine ⟨fam, (nei.set k nei[prev nei.length k]).set (prev nei.length k) nei[k], hp.perm ((swap_perm hk pk (prev_ne hk h1)).append_left _) f1 f2 (by simp; omega) (by simp; omega), ?_⟩
    have s1 := sixF_int (l := wS nei) (w := .v (.str nei[prev nei.length k])) (k := (k : Int)) (by omega) (by simpa using hk)
    have s2 := sixF_prev (l := (wS nei).set k (.v (.str nei[prev nei.length k]))) (w := .v (.str nei[k])) (k := k) (by simpa using hk)
    rw [List.length_set, hm] at s2
    have e9 : wS ((nei.set k nei[prev nei.length k]).set (prev nei.length k) nei[k]) = ((wS nei).set k (.v (.str nei[prev nei.length k]))).set (prev nei.length k) (.v (.str nei[k])) := by simp [List.map_set]
    rw [e9]
    rw [← hm] at h1
    rw [Int.toNat_natCast] at s1
    generalize wS fam = L at *
    generalize wS nei = N at *
    have h1' : (1 : Int) < (N.length : Int) := by omega
    simp [cb_near_p1, h1, h1', gk, gp, s1, s2]
  · by_cases e2 : x0 = 2 ∧ 1 < nei.length
    · obtain ⟨rfl, h1⟩ := e2
      refine ⟨fam, nei.eraseIdx k, hp.sub (List.Sublist.append (List.Sublist.refl _) (List.eraseIdx_sublist _ _)) f1 f2 (by rw [List.length_eraseIdx, if_pos hk]; omega) (by rw [List.length_eraseIdx, if_pos hk]; omega), ?_⟩
      have s1 := popI_k (n := (wS nei).length) (k := k) (by rw [hm]; exact hk) (by rw [hm]; omega)
      have e9 : wS (nei.eraseIdx k) = (wS nei).eraseIdx k := wS_erase _ _
      rw [e9]
      rw [← hm] at h1
      generalize wS fam = L at *
      generalize wS nei = N at *
      have h1' : (1 : Int) < (N.length : Int) := by omega
      simp [cb_near_p1, h1, h1', s1, gk]
    · by_cases e3 : x0 = 3 ∧ nei.length < 8
      · obtain ⟨rfl, h1⟩ := e3
        refine ⟨fam, nei.take k ++ fr :: nei.drop k, hp.more hf hn ((ins_perm.append_left _).trans List.perm_middle) f1 f2 (by simp; omega) (by simp; omega), ?_⟩
        have s1 := insF_k (k := k) (w := .v (.str fr)) (l := wS nei) (by rw [hm]; omega) (by rw [hm]; omega)
        have e9 : wS (nei.take k ++ fr :: nei.drop k) = (wS nei).take k ++ .v (.str fr) :: (wS nei).drop k := by simp [List.map_take, List.map_drop]
        rw [e9]
        rw [← hm] at h1
        generalize wS fam = L at *
        generalize wS nei = N at *
        have h1' : (N.length : Int) < 8 := by omega
        simp [cb_near_p1, h1, h1', s1, z4]
      · by_cases e4 : x0 = 4 ∧ 1 < fam.length ∧ nei.length < 8
        · obtain ⟨rfl, h1, h2⟩ := e4
          have hlast : fam.length - 1 < fam.length := by omega
          refine ⟨fam.eraseIdx (fam.length - 1), fam[fam.length - 1] :: nei, hp.perm ?_ (by rw [List.length_eraseIdx, if_pos hlast]; omega) (by rw [List.length_eraseIdx, if_pos hlast]; omega) (by simp) (by simp; omega), ?_⟩
          · exact List.perm_middle.trans (((self_perm hlast).symm.append_right _))
          have s1 := popI_n (n := (wS fam).length) (by rw [hl]; omega)
          have g1 : (wS fam)[(wS fam).length - 1]? = some (.v (.str fam[fam.length - 1])) := by rw [hl]; simp [hlast]
          have s2 := insF_k (k := 0) (w := .v (.str fam[fam.length - 1])) (l := wS nei) (by omega) (by rw [hm]; omega)
          have e9 : wS (fam.eraseIdx (fam.length - 1)) = (wS fam).eraseIdx ((wS fam).length - 1) := by rw [hl]; exact wS_erase _ _
          have e8 : wS (fam[fam.length - 1] :: nei) = (wS nei).take 0 ++ .v (.str fam[fam.length - 1]) :: (wS nei).drop 0 := by simp
          rw [e9, e8]
          rw [← hl] at h1
          rw [← hm] at h2
          generalize wS fam = L at *
          generalize wS nei = N at *
          have h1' : (1 : Int) < (L.length : Int) := by omega
          have h2' : (N.length : Int) < 8 := by omega
          simp only [Int.natCast_zero] at s2
          simp [cb_near_p1, h1, h1', h2, h2', s1, g1, s2]
        · by_cases e5 : x0 = 5 ∧ 1 < nei.length ∧ fam.length < 4
          · obtain ⟨rfl, h1, h2⟩ := e5
            have h0 : 0 < nei.length := by omega
            refine ⟨fam ++ [nei[0]], nei.eraseIdx 0, hp.perm ?_ (by simp) (by simp; omega) (by rw [List.length_eraseIdx, if_pos h0]; omega) (by rw [List.length_eraseIdx, if_pos h0]; omega), ?_⟩
            · rw [List.append_assoc]
              exact List.Perm.append_left _ (self_perm h0).symm
            have s1 := popI_k (n := (wS nei).length) (k := 0) (by rw [hm]; exact h0) (by rw [hm]; omega)
            have g1 : (wS nei)[0]? = some (.v (.str nei[0])) := by simp [h0]
            have e9 : wS (nei.eraseIdx 0) = (wS nei).eraseIdx 0 := wS_erase _ _
            have e8 : wS (fam ++ [nei[0]]) = wS fam ++ [.v (.str nei[0])] := by simp
            rw [e9, e8]
            have hz : (wS fam).length < 16777216 := by rw [hl]; omega
            rw [← hm] at h1
            rw [← hl] at h2
            generalize wS fam = L at *
            generalize wS nei = N at *
            have h1' : (1 : Int) < (N.length : Int) := by omega
            have h2' : (L.length : Int) < 4 := by omega
            simp only [Int.natCast_zero] at s1
            simp [cb_near_p1, h1, h1', h2, h2', s1, g1, hz]
          · refine ⟨fam, nei.set k fr, hp.exch hf hn (r := fam ++ nei.eraseIdx k) (List.Sublist.append (List.Sublist.refl _) (List.eraseIdx_sublist _ _)) (((set_perm hk).append_left _).trans List.perm_middle) f1 f2 (by simp; omega) (by simp; omega), ?_⟩
            have s1 := sixF_int (l := wS nei) (w := .v (.str fr)) (k := (k : Int)) (by omega) (by simpa using hk)
            rw [Int.toNat_natCast] at s1
            have e9 : wS (nei.set k fr) = (wS nei).set k (.v (.str fr)) := by simp [List.map_set]
            rw [e9]
            rw [← hl] at e4 e5
            rw [← hm] at e1 e2 e3 e4 e5
            generalize wS fam = L at *
            generalize wS nei = N at *
            by_cases q1 : x0 = 1
            · have h : ¬ (1 : Int) < (N.length : Int) := fun z => e1 ⟨q1, by omega⟩
              have h' : ¬ 1 < N.length := by omega
              simp [cb_near_p1, q1, h, h', s1]
            · by_cases q2 : x0 = 2
              · have h : ¬ (1 : Int) < (N.length : Int) := fun z => e2 ⟨q2, by omega⟩
                have h' : ¬ 1 < N.length := by omega
                simp [cb_near_p1, q2, h, h', s1]
              · by_cases q3 : x0 = 3
                · have h : ¬ (N.length : Int) < 8 := fun z => e3 ⟨q3, by omega⟩
                  have h' : ¬ N.length < 8 := by omega
                  simp [cb_near_p1, q3, h, h', s1, z4]
                · by_cases q4 : x0 = 4
                  · by_cases h : (1 : Int) < (L.length : Int)
                    · have h' : 1 < L.length := by omega
                      have h2 : ¬ (N.length : Int) < 8 := fun z => e4 ⟨q4, by omega, by omega⟩
                      have h2' : ¬ N.length < 8 := by omega
                      simp [cb_near_p1, q4, h, h', h2, h2', s1]
                    · have h' : ¬ 1 < L.length := by omega
                      simp [cb_near_p1, q4, h, h', s1]
                  · by_cases q5 : x0 = 5
                    · by_cases h : (1 : Int) < (N.length : Int)
                      · have h' : 1 < N.length := by omega
                        have h2 : ¬ (L.length : Int) < 4 := fun z => e5 ⟨q5, by omega, by omega⟩
                        have h2' : ¬ L.length < 4 := by omega
                        simp [cb_near_p1, q5, h, h', h2, h2', s1]
                      · have h' : ¬ 1 < N.length := by omega
                        simp [cb_near_p1, q5, h, h', s1]
                    · simp [cb_near_p1, q1, q2, q3, q4, q5, s1]

theorem fz4 (a b c d : D) : frzW 0 (.r 0) [.lst [.v a, .v b, .v c, .v d]] = .ok (.v (.lst [a, b, c, d])) [] := by simp
theorem near_spec (T : Tb) (fd ff : Nat) (hd : HDraw T fd) (hf : HFresh T ff) (c sa : Int) (fam nei : List Str) (hp : Ppl 4 8 fam nei) : ∃ fam' nei', Ppl 4 8 fam' nei' ∧ RT (runD T 10 (cb_near fd ff) [] [.v (.int c), .v (.int sa), .v (.lst (sD fam)), .v (.lst (sD nei))]) (.lst [.lst (sD fam'), .lst (sD nei')]) := by
  have f1 := hp.f1; have f2 := hp.f2; have n1 := hp.n1; have n2 := hp.n2
  obtain ⟨got, hg, hcall⟩ := hd.call c sa [7, 2, 8, 217180147158] (.cons (by decide) (by decide) (.cons (by decide) (by decide) (.cons (by decide) (by decide) (.cons (by decide) (by decide) .nil)))) (by simp)
  obtain ⟨x0, got, rfl, a0, a1, hg⟩ := Drawn_cons hg
  obtain ⟨x1, got, rfl, b0, b1, hg⟩ := Drawn_cons hg
  obtain ⟨x2, got, rfl, c0, c1, hg⟩ := Drawn_cons hg
  obtain ⟨x3, got, rfl, d0, d1, hg⟩ := Drawn_cons hg
  have := Drawn_nil hg
  subst this
  obtain ⟨fr, hfr, hnf, hfc⟩ := hf x3 (fam ++ nei) (by simp; omega)
  have hfc := RV.c2 hfc
  have hcall := hcall []
  have hz : (sD fam).length + (sD nei).length ≤ 16777216 := by simp; omega
  have ea : sD (fam ++ nei) = sD fam ++ sD nei := by simp
  rw [ea] at hfc
  simp only [List.map_cons, List.map_nil, List.length_nil, List.nil_append] at hcall
  by_cases e0 : x0 = 0
  · refine ⟨fam, nei, hp, 2, [.lst (wS fam), .lst (wS nei), .lst [.r 0, .r 1]], ?_, ?_⟩
    · rw [← wS_sD, ← wS_sD]
      generalize sD fam = A at *
      generalize sD nei = B at *
      subst e0
      simp [runD_def, cb_near, List.replicate, hcall, hfc, hz]
    · rw [← wS_sD, ← wS_sD]; exact rdf_two _ _
  · have fin : ∀ fam' nei' : List Str, rdf 0 [.lst (wS fam'), .lst (wS nei'), .lst [.r 0, .r 1]] 4 (.r 2) = some (.lst [.lst (sD fam'), .lst (sD nei')]) := fun a b => by rw [← wS_sD, ← wS_sD]; exact rdf_two _ _
    have hlf : (sD fam).length = fam.length := by simp
    have hln : (sD nei).length = nei.length := by simp
    by_cases e1 : x1 = 0
    · obtain ⟨k, ek, hk⟩ := modN x2 (n := (fam.length : Int)) (by omega)
      obtain ⟨fam', nei', hp', hr⟩ := near_p1_0 T (some (.v (.int c))) (some (.v (.int sa))) (some (.v (.lst (sD fam)))) (some (.v (.lst (sD nei)))) fam nei fr x0 x1 x2 x3 k (by omega) e1 hp hfr hnf
      refine ⟨fam', nei', hp', 2, _, ?_, fin fam' nei'⟩
      have hpos : (0 : Int) < ((sD fam).length : Int) := by omega
      have hpos' : 0 < (sD fam).length := by omega
      rw [← hlf] at ek
      rw [← wS_sD fam, ← wS_sD nei] at hr
      generalize sD fam = A at *
      generalize sD nei = B at *
      subst e1
      simp [runD_def, cb_near, List.replicate, hcall, hfc, hz, e0, hpos, hpos', ek, hr]
    · have e1 : x1 = 1 := by omega
      obtain ⟨k, ek, hk⟩ := modN x2 (n := (nei.length : Int)) (by omega)
      obtain ⟨fam', nei', hp', hr⟩ := near_p1_1 T (some (.v (.int c))) (some (.v (.int sa))) (some (.v (.lst (sD fam)))) (some (.v (.lst (sD nei)))) fam nei fr x0 x1 x2 x3 k (by omega) e1 hp hfr hnf
      refine ⟨fam', nei', hp', 2, _, ?_, fin fam' nei'⟩
      have hpos : (0 : Int) < ((sD nei).length : Int) := by omega
      have hpos' : 0 < (sD nei).length := by omega
      rw [← hln] at ek
      rw [← wS_sD fam, ← wS_sD nei] at hr
      generalize sD fam = A at *
      generalize sD nei = B at *
      subst e1
      simp [runD_def, cb_near, List.replicate, hcall, hfc, hz, e0, hpos, hpos', ek, hr]
def HNear (T : Tb) (f : Nat) : Prop := ∀ (c sa : Int) (fam nei : List Str), Ppl 4 8 fam nei → ∃ fam' nei', Ppl 4 8 fam' nei' ∧ RT (T.fs f [] [.v (.int c), .v (.int sa), .v (.lst (sD fam)), .v (.lst (sD nei))]) (.lst [.lst (sD fam'), .lst (sD nei')])
theorem HNear.call {T : Tb} {f : Nat} (h : HNear T f) (c sa : Int) (fam nei : List Str) (hp : Ppl 4 8 fam nei) : ∃ fam' nei', Ppl 4 8 fam' nei' ∧ (NV.callW T f [.v (.int c), .v (.int sa), .v (.lst (sD fam)), .v (.lst (sD nei))] []).bind (frzW 0) = .ok (.v (.lst [.lst (sD fam'), .lst (sD nei')])) [] := by
  obtain ⟨f', n', h1, h2⟩ := h c sa fam nei hp
  exact ⟨f', n', h1, RT.frz (ds := [.int c, .int sa, .lst (sD fam), .lst (sD nei)]) h2 [] rfl⟩
end NV

namespace NV
open PySem L2
def cb_Street_init_l1 (f_is_name : Nat) : CB := (.cons (.ite (.not (.e (.frz (.call f_is_name (.cons (.var 4) .nil) [])))) (.cons .bot .nil) .nil) (.cons (.ite (.cmp .isin (.var 4) (.var 3)) (.cons .bot .nil) .nil) (.cons (.app (.var 3) (.var 4)) .nil)))
def cb_Street_init_e1 : CE := (.frz (.tup (.cons (.var 4) (.cons (.var 5) .nil))))
def cb_Street_init (g_MOST_FAMILY g_MOST_NEIGHBOURS f_is_name g_KINDS : Nat) : CB := (.cons (.ite (.not (.chain .le .le (.int 1) (.bi .len (.var 1)) (.glo g_MOST_FAMILY ))) (.cons .bot .nil) .nil) (.cons (.ite (.not (.chain .le .le (.int 1) (.bi .len (.var 2)) (.glo g_MOST_NEIGHBOURS ))) (.cons .bot .nil) .nil) (.cons (.set 3 (.lst .nil)) (.cons (.fr 4 (.e (.frz (.lst (.star (.var 1) (.star (.var 2) .nil))))) (cb_Street_init_l1 f_is_name )) (.cons (.sfld 0 "_family" (.frz (.bi .tuple (.var 1)))) (.cons (.sfld 0 "_neighbours" (.frz (.bi .tuple (.var 2)))) (.cons (.sfld 0 "_spots" (.frz (.bi .sorted (.frz (.lc2 cb_Street_init_e1 (.one 4) (.e (.var 2)) (.one 5) (.e (.glo g_KINDS ))))))) .nil)))))))
def cb_Street_spots : CB := (.cons (.ret (.bi .list (.fld (.var 0) "_spots"))) .nil)
def cb_Street_family : CB := (.cons (.ret (.fld (.var 0) "_family")) .nil)
def cb_Street_neighbours : CB := (.cons (.ret (.fld (.var 0) "_neighbours")) .nil)
def cb_Street_eq (c_Street : Nat) : CB := (.cons (.ret (.andv (.isc (.var 1) c_Street ) (.andv (.cmp .eq (.fld (.var 0) "_family") (.fld (.var 1) "_family")) (.cmp .eq (.fld (.var 0) "_neighbours") (.fld (.var 1) "_neighbours"))))) .nil)
/-! ### two generators -/
theorem lcRunL_flat {f : W → Out (List W)} {r : D → List D} : ∀ {l : List D}, (∀ d ∈ l, ∃ S', f (.v d) = .ok ((r d).map W.v) S') → lcRunL f (l.map W.v) = .ok ((l.flatMap r).map W.v) []
  | [], _ => rfl
  | d :: l, h => by
    obtain ⟨S', e⟩ := h d (by simp)
    simp only [List.map_cons]
    unfold lcRunL
    rw [e]
    dsimp only
    rw [lcRunL_flat fun d hd => h d (by simp [hd])]
    simp
theorem lc2_flat {vs : List Nat} {g1 : Tg} {it2 : Env' → Sto → Out W} {f2 : Env' → Sto → W → Out (Option W)} {Γ : Env'} {w : W} {S : Sto} {l : List D} {r : D → List D} (hw : seqOf S w = some (l.map W.v))
    (h : ∀ d ∈ l, ∃ Γ1 w2 l2, stpV vs g1 (.v d) Γ = some Γ1 ∧ it2 Γ1 S = .ok w2 S ∧ seqOf S w2 = some l2 ∧ lcRun (f2 Γ1 S) l2 = .ok ((r d).map W.v) []) (hz : (l.flatMap r).length ≤ 16777216) : lc2E vs g1 it2 f2 Γ w S = .ok (.r S.length) (S ++ [.lst ((l.flatMap r).map W.v)]) := by
  unfold lc2E
  rw [hw, opt_some]
  unfold lc2L
  rw [lcRunL_flat (r := r) fun d hd => by
    obtain ⟨Γ1, w2, l2, h1, h2, h3, h4⟩ := h d hd
    refine ⟨[], ?_⟩
    unfold lc2T
    rw [h1, opt_some]
    unfold lc2F
    rw [h2, Out.bind_ok]
    unfold lc2In
    rw [needC_pos rfl, h3, opt_some, h4]]
  rw [Out.bind_ok]
  unfold lc2K
  rw [need_pos (by rw [sizeLine_n, List.length_map]; exact hz)]
  rfl
theorem lc2f_map {g2 : Tg} {fe : Env' → Sto → Out W} {Γ1 : Env'} {S : Sto} {l : List D} {g : D → D} (h : ∀ d ∈ l, ∃ Γ2, stpV g2.ns g2 (.v d) Γ1 = some Γ2 ∧ fe Γ2 S = .ok (.v (g d)) S) : lcRun (lc2f g2 fe Γ1 S) (l.map W.v) = .ok ((l.map g).map W.v) [] := by
  refine lcRun_mapD fun d hd => ?_
  obtain ⟨Γ2, h1, h2⟩ := h d hd
  unfold lc2f turnG
  rw [h1, opt_some]
  show (fe Γ2 S).bind (someK S) = _
  rw [h2, Out.bind_ok]
  exact someK_same _ _
/-! ### spots of a street -/
def lePair (a b : Str × Str) : Bool := !ltD (spotD b) (spotD a)
def spL (nei : List Str) : List (Str × Str) := (nei.flatMap both2).mergeSort lePair
theorem spL_sortT (nei : List Str) : sortT ((nei.flatMap both2).map spotD) = (spL nei).map spotD := by
  unfold sortT spL
  rw [List.map_mergeSort (r := lePair) (s := fun a b => !ltD b a) (fun a _ b _ => rfl)]
theorem spL_perm (nei : List Str) : (spL nei).Perm (nei.flatMap both2) := List.mergeSort_perm _ _
theorem shp_spot (p : Str × Str) : hasShp (.p .s .s) (spotD p) = true := rfl
theorem pairsOk_spots (l : List (Str × Str)) : pairsOk (l.map spotD) = true := by
  cases l with
  | nil => rfl
  | cons a l =>
    have : shpOf (spotD a) = some (.p .s .s) := by simp [spotD, shpOf]
    simp only [List.map_cons, pairsOk, this]
    simp [shpDep, shp_spot]
theorem sorted_spots (T : Tb) (l : List (Str × Str)) (S : Sto) : biW T .sorted (.v (.lst (l.map spotD))) S = .ok (.r S.length) (S ++ [.lst ((sortT (l.map spotD)).map W.v)]) := by
  unfold biW
  dsimp only
  rw [listOf_l, opt_some, unV_mapv, opt_some]
  cases l with
  | nil =>
    show need (0 < 64) (alc (.lst (((sortS []).map D.str).map W.v)) S) = _
    rw [need_pos (by decide)]
    simp [sortS, sortT]
  | cons a l =>
    have : strsOf (List.map spotD (a :: l)) = none := rfl
    rw [this]
    exact need_pos (pairsOk_spots (a :: l))
theorem both_len (nei : List Str) : (nei.flatMap both2).length = 2 * nei.length := by
  induction nei with
  | nil => rfl
  | cons a l ih => simp only [List.flatMap_cons, List.length_append, ih, both2, List.length_cons, List.length_nil]; omega
theorem spL_len (nei : List Str) : (spL nei).length = 2 * nei.length := by rw [(spL_perm nei).length_eq, both_len]
theorem mem_both {nei : List Str} {p : Str × Str} : p ∈ nei.flatMap both2 ↔ p.1 ∈ nei ∧ (p.2 = "copy" ∨ p.2 = "set") := by
  obtain ⟨a, b⟩ := p
  simp only [List.mem_flatMap, both2, List.mem_cons, List.not_mem_nil, or_false, Prod.mk.injEq]
  constructor
  · rintro ⟨w, hw, ⟨rfl, rfl⟩ | ⟨rfl, rfl⟩⟩
    · exact ⟨hw, .inl rfl⟩
    · exact ⟨hw, .inr rfl⟩
  · rintro ⟨h1, rfl | rfl⟩
    · exact ⟨a, h1, .inl ⟨rfl, rfl⟩⟩
    · exact ⟨a, h1, .inr ⟨rfl, rfl⟩⟩
theorem mem_spL {nei : List Str} {p : Str × Str} : p ∈ spL nei ↔ p.1 ∈ nei ∧ (p.2 = "copy" ∨ p.2 = "set") := by
  rw [(spL_perm nei).mem_iff, mem_both]
theorem copy_ne : ("copy" : Str) ≠ "set" := by decide
theorem both_nodup {nei : List Str} (h : nei.Nodup) : (nei.flatMap both2).Nodup := by
  induction nei with
  | nil => simp
  | cons a l ih =>
    obtain ⟨h1, h2⟩ := List.nodup_cons.mp h
    rw [List.flatMap_cons, List.nodup_append]
    refine ⟨by simp [both2, copy_ne], ih h2, ?_⟩
    intro x hx y hy e
    subst e
    have := (mem_both.mp hy).1
    simp only [both2, List.mem_cons, List.not_mem_nil, or_false] at hx
    rcases hx with rfl | rfl <;> exact h1 this
theorem spL_nodup {nei : List Str} (h : nei.Nodup) : (spL nei).Nodup := (spL_perm nei).nodup_iff.mpr (both_nodup h)
theorem spotD_inj {p q : Str × Str} (h : spotD p = spotD q) : p = q := by
  have := eq_spot p q
  rw [h, eq_spot] at this
  simpa using this
/-- strictly ascending -/
theorem spL_lt {nei : List Str} (h : nei.Nodup) : (spL nei).Pairwise fun a b => ltD (spotD a) (spotD b) = true := by
  have h1 : ((spL nei).map spotD).Pairwise fun a b => ltD b a = false := by
    rw [← spL_sortT]
    exact sortT_pw (h := .p .s .s) fun d hd => by
      obtain ⟨p, _, rfl⟩ := List.mem_map.mp hd
      rfl
  rw [List.pairwise_map] at h1
  have h2 := spL_nodup h
  exact (h1.and h2).imp fun {a b} ⟨q1, q2⟩ => by
    rcases shp_tri (.p .s .s) (spotD a) (spotD b) rfl rfl (fun e => q2 (spotD_inj e)) with ⟨z, _⟩ | ⟨_, z⟩
    · exact z
    · rw [q1] at z; cases z
/-! ### the street -/
abbrev stD (c : Nat) (fam nei : List Str) : D := .ins c [.tup (sD fam), .tup (sD nei), .lst ((spL nei).map spotD)]
/-- what is asked of the class -/
structure CSt (T : Tb) (c : Nat) : Prop where
  x0 : ixOf "_family" (T.ci c).flds = some 0
  x1 : ixOf "_neighbours" (T.ci c).flds = some 1
  x2 : ixOf "_spots" (T.ci c).flds = some 2
structure GSt (T : Tb) (gf gn gk : Nat) : Prop where
  f : T.cs gf = some (.int 4)
  n : T.cs gn = some (.int 8)
  k : T.cs gk = some (.tup [.str "copy", .str "set"])
theorem init_loop (T : Tb) (fi m : Nat) (hn : HIsName T fi) (stK : List W → Sto) (h1 : ∀ l, (stK l)[m]? = some (.lst l)) (h2 : ∀ l l', (stK l).set m (.lst l') = stK l') (a b c : Option W) (w : W) (p : Bool × List W) (hq : ∀ l, sqOf (stK l) w = some p) : ∀ (rest kn : List Str) (s4 s5 : Option W), (∀ x ∈ rest, isNm x) → (kn ++ rest).Nodup → (kn ++ rest).length < 1000 →
    ∃ s4', forW (lpS (execs T (cb_Street_init_l1 fi)) 4) w p ((sD rest).map W.v) [a, b, c, some (.r m), s4, s5] (stK ((sD kn).map W.v)) = .nx [a, b, c, some (.r m), s4', s5] (stK ((sD (kn ++ rest)).map W.v))
  | [], kn, s4, s5, _, _, _ => ⟨s4, by simp⟩
  | x :: rest, kn, s4, s5, hx, hnd, hl => by
    have hnm := hx x (by simp)
    have e1 : (kn ++ [x]) ++ rest = kn ++ x :: rest := by simp
    obtain ⟨s4', ih⟩ := init_loop T fi m hn stK h1 h2 a b c w p hq rest (kn ++ [x]) (some (.v (.str x))) s5 (fun y hy => hx y (by simp [hy])) (by rw [e1]; exact hnd) (by rw [e1]; exact hl)
    refine ⟨s4', ?_⟩
    rw [e1] at ih
    simp only [List.map_cons]
    refine (forW_cons ?_ (hq _)).trans ih
    have hc := RV.c1 (T := T) (hn x (by have := hnm.2.1; omega)) (stK ((sD kn).map W.v))
    rw [isNmB_iff.mpr hnm] at hc
    have hi := inW_str T x kn m (stK ((sD kn).map W.v)) (h1 _)
    have hxk : x ∉ kn := fun z => by
      have := (List.nodup_append.mp hnd).2.2 x z x (by simp)
      exact this rfl
    simp only [hxk, decide_false] at hi
    have hz : ((sD kn).map W.v).length < 16777216 := by simp at hl ⊢; omega
    have e2 : (sD (kn ++ [x])).map W.v = (sD kn).map W.v ++ [.v (.str x)] := by simp
    rw [e2]
    generalize (sD kn).map W.v = L at *
    simp [cb_Street_init_l1, hc, hi, h1, h2, hz]

@[simp] theorem starE_def (m : Sto → Out (List W)) (x : W) (S : Sto) : starE m x S = opt (seqOf S x) fun l => (m S).bind (appK l) := id rfl
@[simp] theorem appK_def (x l : List W) (S : Sto) : appK x l S = .ok (x ++ l) S := id rfl
theorem spots_lc2 (T : Tb) (gk : Nat) (hk : T.cs gk = some (.tup [.str "copy", .str "set"])) (nei : List Str) (hl : nei.length < 1000) (a b c d s4 : Option W) (w : W) (S : Sto) (hw : seqOf S w = some ((sD nei).map W.v)) :
    lc2E [4, 5] (.one 4) (evi T (.e (.glo gk))) (lc2f (.one 5) (ev T cb_Street_init_e1)) [a, b, c, d, s4, none] w S = .ok (.r S.length) (S ++ [.lst (((nei.flatMap both2).map spotD).map W.v)]) := by
  have e := lc2_flat (vs := [4, 5]) (g1 := .one 4) (it2 := evi T (.e (.glo gk))) (f2 := lc2f (.one 5) (ev T cb_Street_init_e1)) (Γ := [a, b, c, d, s4, none]) (w := w) (S := S) (l := sD nei) (r := fun x => [.tup [x, .str "copy"], .tup [x, .str "set"]]) hw (fun x hx => by
    obtain ⟨n, _, rfl⟩ := List.mem_map.mp hx
    refine ⟨[a, b, c, d, some (.v (.str n)), none], .v (.tup [.str "copy", .str "set"]), [.v (.str "copy"), .v (.str "set")], by simp [stpV, stpX, unsets], by simp [hk], rfl, ?_⟩
    have := lc2f_map (g2 := .one 5) (fe := ev T cb_Street_init_e1) (Γ1 := [a, b, c, d, some (.v (.str n)), none]) (S := S) (l := [.str "copy", .str "set"]) (g := fun k => .tup [.str n, k]) (fun k hk => ⟨[a, b, c, d, some (.v (.str n)), some (.v k)], by simp [stpV, stpX, unsets, Tg.ns], by simp [cb_Street_init_e1, tupK]⟩)
    exact this) (by
    have : ∀ l : List Str, (List.flatMap (fun x => [D.tup [x, .str "copy"], .tup [x, .str "set"]]) (sD l)).length = 2 * l.length := fun l => by
      induction l with
      | nil => rfl
      | cons a l ih => simp only [List.map_cons, List.flatMap_cons, List.length_append, ih, List.length_cons, List.length_nil]; omega
    rw [this]; omega)
  rw [e]
  have : ∀ l : List Str, List.flatMap (fun x => [D.tup [x, .str "copy"], .tup [x, .str "set"]]) (sD l) = (l.flatMap both2).map spotD := fun l => by
    induction l with
    | nil => rfl
    | cons a l ih => simp only [List.map_cons, List.flatMap_cons, ih, List.map_append, both2, spotD, List.map_nil]
  rw [this]
theorem init_v (T : Tb) (c gf gn fi gk : Nat) (hc : CSt T c) (hg : GSt T gf gn gk) (hn : HIsName T fi) (fam nei : List Str) (hp : Ppl 4 8 fam nei) (x y : D) (hx : x = .lst (sD fam) ∨ x = .tup (sD fam)) (hy : y = .lst (sD nei) ∨ y = .tup (sD nei)) :
    runD T 6 (cb_Street_init gf gn fi gk) [.ins c []] [.r 0, .v x, .v y] = .ok (.v .non) [.ins c [.v (.tup (sD fam)), .v (.tup (sD nei)), .v (.lst ((spL nei).map spotD))], .lst ((sD (fam ++ nei)).map W.v)] := by
  have f1 := hp.f1; have f2 := hp.f2; have n1 := hp.n1; have n2 := hp.n2
  obtain ⟨s4, lp⟩ := init_loop T fi 1 hn (fun l => [.ins c [], .lst l]) (fun l => rfl) (fun l l' => rfl) (some (.r 0)) (some (.v x)) (some (.v y)) (.v (.lst (sD (fam ++ nei)))) (true, (sD (fam ++ nei)).map W.v) (fun l => sqOf_l _ _) (fam ++ nei) [] none none hp.nm (by simpa using hp.nd) (by simp; omega)
  have hlf : (sD fam).length = fam.length := by simp
  have hln : (sD nei).length = nei.length := by simp
  have a1 : (1 : Int) ≤ ((sD fam).length : Int) := by omega
  have a2 : ((sD fam).length : Int) ≤ 4 := by omega
  have a3 : (1 : Int) ≤ ((sD nei).length : Int) := by omega
  have a4 : ((sD nei).length : Int) ≤ 8 := by omega
  have a1' : 1 ≤ (sD fam).length := by omega
  have a2' : (sD fam).length ≤ 4 := by omega
  have a3' : 1 ≤ (sD nei).length := by omega
  have a4' : (sD nei).length ≤ 8 := by omega
  have zz : (sD fam).length + (sD nei).length ≤ 16777216 := by omega
  have sp := fun (s4 : Option W) (S : Sto) (hw : seqOf S (.v y) = some ((sD nei).map W.v)) => spots_lc2 T gk hg.k nei (by omega) (some (.r 0)) (some (.v x)) (some (.v y)) (some (.r 1)) s4 (.v y) S hw
  have so := sorted_spots T (nei.flatMap both2)
  rw [spL_sortT] at so
  have ea : sD (fam ++ nei) = sD fam ++ sD nei := by simp
  simp only [List.nil_append, List.map_nil] at lp
  rw [ea] at lp ⊢
  have g1 := hg.f; have g2 := hg.n; have i0 := hc.x0; have i1 := hc.x1; have i2 := hc.x2
  generalize (spL nei).map spotD = SP at *
  generalize (nei.flatMap both2).map spotD = BB at *
  generalize sD fam = A at *
  generalize sD nei = B at *
  have fz1 : frzW 2 (.r 2) [.ins c [], .lst [], .lst (A.map W.v ++ B.map W.v)] = .ok (.v (.lst (A ++ B))) [.ins c [], .lst []] := by simp
  have fz2 : frzW 2 (.r 2) [.ins c [.v (.tup A), .v (.tup B)], .lst (A.map W.v ++ B.map W.v), .lst (BB.map W.v)] = .ok (.v (.lst BB)) [.ins c [.v (.tup A), .v (.tup B)], .lst (A.map W.v ++ B.map W.v)] := by simp
  have fz3 : frzW 2 (.r 2) [.ins c [.v (.tup A), .v (.tup B)], .lst (A.map W.v ++ B.map W.v), .lst (SP.map W.v)] = .ok (.v (.lst SP)) [.ins c [.v (.tup A), .v (.tup B)], .lst (A.map W.v ++ B.map W.v)] := by simp
  have sp' := sp s4 [.ins c [.v (.tup A), .v (.tup B)], .lst (A.map W.v ++ B.map W.v)]
  have so' := so [.ins c [.v (.tup A), .v (.tup B)], .lst (A.map W.v ++ B.map W.v)]
  simp only [List.map_append] at lp
  rcases hx with rfl | rfl <;> rcases hy with rfl | rfl <;> simp [runD_def, cb_Street_init, List.replicate, Tg.ns, g1, g2, a1, a2, a3, a4, a1', a2', a3', a4', zz, fz1, lp, i0, i1, i2, sp', so', fz2, fz3]
theorem make_new {T : Tb} {c f : Nat} {ds l : List D} {S S' : Sto} (h : T.fs f [.ins c []] (.r 0 :: ds.map W.v) = .ok (.v .non) S') (h0 : S'[0]? = some (.ins c (l.map W.v))) : makeW T c f (ds.map W.v) S = .ok (.r S.length) (S ++ [.ins c (l.map W.v)]) := by
  unfold makeW
  rw [unV_mapv, h]
  show emb S (.r 0) S' = _
  unfold emb
  dsimp only
  rw [h0]
  simp
/-- a street is made -/
def HStreet (T : Tb) (c f : Nat) : Prop := ∀ (fam nei : List Str), Ppl 4 8 fam nei → ∀ x y : D, (x = .lst (sD fam) ∨ x = .tup (sD fam)) → (y = .lst (sD nei) ∨ y = .tup (sD nei)) →
  ∃ S', T.fs f [.ins c []] [.r 0, .v x, .v y] = .ok (.v .non) S' ∧ S'[0]? = some (.ins c [.v (.tup (sD fam)), .v (.tup (sD nei)), .v (.lst ((spL nei).map spotD))])
theorem HStreet.call {T : Tb} {c f : Nat} (h : HStreet T c f) {fam nei : List Str} (hp : Ppl 4 8 fam nei) {x y : D} (hx : x = .lst (sD fam) ∨ x = .tup (sD fam)) (hy : y = .lst (sD nei) ∨ y = .tup (sD nei)) (S : Sto) : makeW T c f [.v x, .v y] S = .ok (.r S.length) (S ++ [.ins c [.v (.tup (sD fam)), .v (.tup (sD nei)), .v (.lst ((spL nei).map spotD))]]) := by
  obtain ⟨S', h1, h2⟩ := h fam nei hp x y hx hy
  exact make_new (ds := [x, y]) (l := [.tup (sD fam), .tup (sD nei), .lst ((spL nei).map spotD)]) h1 h2
end NV

namespace Lw
open PySem L2 NV
def top (i : Nat) : Stmt := PySem.Challenge.pw_neighbourkeys_k03_street_keeps_its_names.main.body.getD i (.Pass ⟨0, 0, 0, 0⟩)
def mtd (i j : Nat) : Stmt := (bodyOf (top i)).getD j (.Pass ⟨0, 0, 0, 0⟩)
/-- ('draw',) -/
def b0 : CB := (.cons (.set 3 (.bi .int (.var 0))) (.cons (.set 4 (.lst .nil)) (.cons (.ite (.cmp .ge (.var 3) (.bin .pow (.int 10) (.int 18))) (.cons (.set 3 (.bin .sub (.var 3) (.bin .pow (.int 10) (.int 18)))) (.cons (.fr 6 (.e (.var 2)) (.cons (.app (.var 4) (.bin .mod (.bi .int (.var 3)) (.var 6))) (.cons (.set 3 (.bin .fdiv (.var 3) (.var 6))) .nil))) (.cons (.ret (.var 4)) .nil))) .nil) (.cons (.fr 5 (.r1 (.bi .len (.var 2))) (.cons (.set 7 (.bin .mod (.bi .int (.bin .add (.bin .add (.bin .mul (.var 3) (.int 48271)) (.bin .mul (.bin .add (.var 5) (.bin .mul (.int 97) (.var 1))) (.int 69621))) (.int 12345))) (.int 2147483647))) (.cons (.set 8 (.bin .mod (.bi .int (.bin .add (.bin .add (.bin .mul (.var 7) (.var 7)) (.bin .mul (.var 3) (.int 40692))) (.var 5))) (.int 2147483399))) (.cons (.app (.var 4) (.bin .mod (.bi .int (.bin .add (.bin .mul (.var 8) (.int 1000003)) (.bin .fdiv (.var 7) (.int 3)))) (.idx (.var 2) (.var 5)))) .nil)))) (.cons (.ret (.var 4)) .nil)))))
def f0 : Fn := Fn.of (top 20) (fun K => He.ga K "_law_draw") "_law_draw" "_law_draw" ["_law_cell_here", "_law_salt", "_law_bases", "_law_left", "_law_out", "_law_k", "_law_base", "_law_first", "_law_second"] ["_law_cell_here", "_law_salt", "_law_bases"] b0
/-- ('word',) -/
def b1 : CB := (.cons (.set 1 (.str "abcdefghijklmnopqrstuvwxyz")) (.cons (.set 2 (.bin .mod (.bi .int (.var 0)) (.int 217180147158))) (.cons (.set 3 (.int 1)) (.cons (.set 4 (.int 26)) (.cons (.fr 5 (.r1 (.int 7)) (.cons (.ite (.cmp .lt (.var 2) (.var 4)) (.cons .brk .nil) .nil) (.cons (.set 2 (.bin .sub (.var 2) (.var 4))) (.cons (.set 4 (.bin .mul (.var 4) (.int 26))) (.cons (.set 3 (.bin .add (.var 3) (.int 1))) .nil))))) (.cons (.set 6 (.str "")) (.cons (.fr 5 (.r1 (.var 3)) (.cons (.set 6 (.bin .add (.var 6) (.idx (.var 1) (.bin .mod (.bi .int (.var 2)) (.int 26))))) (.cons (.set 2 (.bin .fdiv (.var 2) (.int 26))) .nil))) (.cons (.ret (.var 6)) .nil))))))))
def f1 : Fn := Fn.of (top 21) (fun K => He.ga K "_law_word") "_law_word" "_law_word" ["_law_number", "_law_letters", "_law_left", "_law_size", "_law_room", "_law_k", "_law_word_here"] ["_law_number"] b1
/-- (('Street', '__eq__'),) -/
def b2 : CB := (.cons (.ret (.andv (.isc (.var 1) 0) (.andv (.cmp .eq (.fld (.var 0) "_family") (.fld (.var 1) "_family")) (.cmp .eq (.fld (.var 0) "_neighbours") (.fld (.var 1) "_neighbours"))))) .nil)
def f2 : Fn := Fn.of (mtd 15 10) (fun K => He.ma K (He.ga K "Street") "__eq__") "__eq__" "Street.__eq__" ["self", "other"] ["self", "other"] b2
/-- ('names',) -/
def b3 : CB := (.cons (.set 3 (.str "abcdefghijklmnopqrstuvwxyz")) (.cons (.set 4 (.frz (.call 0 (.cons (.var 0) (.cons (.var 1) (.cons (.frz (.bin .add (.frz (.lst (.cons (.int 2) (.cons (.int 7) (.cons (.int 8) .nil))))) (.frz (.bin .mul (.frz (.lst (.cons (.int 217180147158) .nil))) (.var 2))))) .nil))) []))) (.cons (.set 5 (.lst .nil)) (.cons (.fr 6 (.r1 (.var 2)) (.cons (.set 7 (.idx (.var 4) (.bin .add (.int 3) (.var 6)))) (.cons (.set 8 (.frz (.call 1 (.cons (.var 7) .nil) []))) (.cons (.ite (.cmp .eq (.idx (.var 4) (.int 0)) (.int 1)) (.cons (.set 10 (.frz (.sli (.bin .add (.frz (.call 1 (.cons (.idx (.var 4) (.int 3)) .nil) [])) (.str "abcdefgh")) .no (.so (.bin .add (.int 2) (.idx (.var 4) (.int 1))))))) (.cons (.set 11 (.bin .mod (.bi .int (.idx (.var 4) (.int 2))) (.bi .len (.var 10)))) (.cons (.set 8 (.frz (.bin .add (.frz (.bin .add (.frz (.sli (.var 10) .no (.so (.var 11)))) (.idx (.var 3) (.bin .mod (.bi .int (.bin .add (.bin .fdiv (.idx (.var 4) (.int 3)) (.int 5)) (.bin .mul (.int 7) (.var 6)))) (.int 26))))) (.frz (.sli (.var 10) (.so (.bin .add (.var 11) (.int 1))) .no))))) .nil))) .nil) (.cons (.fr 9 (.r1 (.int 12)) (.cons (.ite (.cmp .isin (.var 8) (.var 5)) (.cons (.set 7 (.bin .add (.var 7) (.int 1))) (.cons (.set 8 (.frz (.call 1 (.cons (.var 7) .nil) []))) .nil)) .nil) .nil)) (.cons (.app (.var 5) (.var 8)) .nil)))))) (.cons (.ret (.var 5)) .nil)))))
def f3 : Fn := Fn.of (top 22) (fun K => He.ga K "_law_names") "_law_names" "_law_names" ["_law_cell_here", "_law_salt", "_law_many", "_law_letters", "_law_got", "_law_words", "_law_k", "_law_number", "_law_word_here", "_law_turn", "_law_stem", "_law_place"] ["_law_cell_here", "_law_salt", "_law_many"] b3
/-- ('cell',) -/
def b4 : CB := (.cons (.ite (.cmp .lt (.var 1) (.bi .len (.var 0))) (.cons (.ret (.bi .int (.idx (.var 0) (.var 1)))) .nil) .nil) (.cons (.ret (.int 0)) .nil))
def f4 : Fn := Fn.of (top 19) (fun K => He.ga K "_law_cell") "_law_cell" "_law_cell" ["_law_script", "_law_k"] ["_law_script", "_law_k"] b4
/-- ('people',) -/
def b5 : CB := (.cons (.set 3 (.frz (.call 0 (.cons (.frz (.call 4 (.cons (.var 0) (.cons (.int 0) .nil)) [])) (.cons (.int 1) (.cons (.frz (.lst (.cons (.var 1) (.cons (.var 2) .nil)))) .nil))) []))) (.cons (.set 4 (.frz (.call 3 (.cons (.frz (.call 4 (.cons (.var 0) (.cons (.int 1) .nil)) [])) (.cons (.int 2) (.cons (.bin .add (.bin .add (.int 2) (.idx (.var 3) (.int 0))) (.idx (.var 3) (.int 1))) .nil))) []))) (.cons (.ret (.lst (.cons (.frz (.sli (.var 4) .no (.so (.bin .add (.int 1) (.idx (.var 3) (.int 0)))))) (.cons (.frz (.sli (.var 4) (.so (.bin .add (.int 1) (.idx (.var 3) (.int 0)))) .no)) .nil)))) .nil)))
def f5 : Fn := Fn.of (top 23) (fun K => He.ga K "_law_people") "_law_people" "_law_people" ["_law_script", "_law_most_family", "_law_most_neighbours", "_law_got", "_law_words"] ["_law_script", "_law_most_family", "_law_most_neighbours"] b5
/-- ('fresh',) -/
def b6 : CB := (.cons (.fr 2 (.r1 (.bin .add (.bi .len (.var 1)) (.int 1))) (.cons (.set 3 (.frz (.call 1 (.cons (.bin .add (.var 0) (.var 2)) .nil) []))) (.cons (.ite (.cmp .notin (.var 3) (.var 1)) (.cons (.ret (.var 3)) .nil) .nil) .nil))) (.cons (.ret (.str "")) .nil))
def f6 : Fn := Fn.of (top 25) (fun K => He.ga K "_law_fresh") "_law_fresh" "_law_fresh" ["_law_number", "_law_known", "_law_turn", "_law_word_here"] ["_law_number", "_law_known"] b6
/-- ('near',) -/
def b7 : CB := (.cons (.set 4 (.frz (.call 0 (.cons (.var 0) (.cons (.var 1) (.cons (.frz (.lst (.cons (.int 7) (.cons (.int 2) (.cons (.int 8) (.cons (.int 217180147158) .nil)))))) .nil))) []))) (.cons (.set 5 (.frz (.call 6 (.cons (.idx (.var 4) (.int 3)) (.cons (.frz (.bin .add (.var 2) (.var 3))) .nil)) []))) (.cons (.set 6 (.lst (.cons (.bi .list (.var 2)) (.cons (.bi .list (.var 3)) .nil)))) (.cons (.ite (.cmp .eq (.idx (.var 4) (.int 0)) (.int 0)) (.cons (.ret (.var 6)) .nil) .nil) (.cons (.set 7 (.idx (.var 6) (.idx (.var 4) (.int 1)))) (.cons (.set 8 (.bin .mod (.bi .int (.idx (.var 4) (.int 2))) (.bi .len (.var 7)))) (.cons (.ite (.and (.cmp .eq (.idx (.var 4) (.int 0)) (.int 1)) (.cmp .gt (.bi .len (.var 7)) (.int 1))) (.cons (.set 9 (.idx (.var 7) (.var 8))) (.cons (.sidx (.var 7) (.var 8) (.idx (.var 7) (.bin .sub (.var 8) (.int 1)))) (.cons (.sidx (.var 7) (.bin .sub (.var 8) (.int 1)) (.var 9)) .nil))) (.cons (.ite (.and (.cmp .eq (.idx (.var 4) (.int 0)) (.int 2)) (.cmp .gt (.bi .len (.var 7)) (.int 1))) (.cons (.del (.var 7) (.so (.var 8))) .nil) (.cons (.ite (.and (.cmp .eq (.idx (.var 4) (.int 0)) (.int 3)) (.cmp .lt (.bi .len (.var 7)) (.idx (.frz (.lst (.cons (.int 4) (.cons (.int 8) .nil)))) (.idx (.var 4) (.int 1))))) (.cons (.ins (.var 7) (.var 8) (.var 5)) .nil) (.cons (.ite (.and (.cmp .eq (.idx (.var 4) (.int 0)) (.int 4)) (.and (.cmp .gt (.bi .len (.idx (.var 6) (.int 0))) (.int 1)) (.cmp .lt (.bi .len (.idx (.var 6) (.int 1))) (.int 8)))) (.cons (.setp 9 (.idx (.var 6) (.int 0)) .no) (.cons (.ins (.idx (.var 6) (.int 1)) (.int 0) (.var 9)) .nil)) (.cons (.ite (.and (.cmp .eq (.idx (.var 4) (.int 0)) (.int 5)) (.and (.cmp .gt (.bi .len (.idx (.var 6) (.int 1))) (.int 1)) (.cmp .lt (.bi .len (.idx (.var 6) (.int 0))) (.int 4)))) (.cons (.setp 9 (.idx (.var 6) (.int 1)) (.so (.int 0))) (.cons (.app (.idx (.var 6) (.int 0)) (.var 9)) .nil)) (.cons (.sidx (.var 7) (.var 8) (.var 5)) .nil)) .nil)) .nil)) .nil)) .nil)) (.cons (.ret (.var 6)) .nil))))))))
def f7 : Fn := Fn.of (top 26) (fun K => He.ga K "_law_near") "_law_near" "_law_near" ["_law_cell_here", "_law_salt", "_law_family", "_law_neighbours", "_law_got", "_law_fresh_here", "_law_rows", "_law_row", "_law_at", "_law_kept"] ["_law_cell_here", "_law_salt", "_law_family", "_law_neighbours"] b7
/-- ('is_name',) -/
def b8 : CB := (.cons (.ite (.not (.chain .le .le (.int 1) (.bi .len (.var 0)) (.glo 1))) (.cons (.ret (.bl false)) .nil) .nil) (.cons (.ret (.bi .all (.frz (.lc (.cmp .isin (.var 1) (.glo 0)) 1 (.e (.var 0)))))) .nil))
def f8 : Fn := Fn.of (top 10) (fun K => He.ga K "is_name") "is_name" "is_name" ["word", "letter"] ["word"] b8
/-- (('Street', '__init__'),) -/
def b9 : CB := (.cons (.ite (.not (.chain .le .le (.int 1) (.bi .len (.var 1)) (.glo 3))) (.cons .bot .nil) .nil) (.cons (.ite (.not (.chain .le .le (.int 1) (.bi .len (.var 2)) (.glo 4))) (.cons .bot .nil) .nil) (.cons (.set 3 (.lst .nil)) (.cons (.fr 4 (.e (.frz (.lst (.star (.var 1) (.star (.var 2) .nil))))) (.cons (.ite (.not (.e (.frz (.call 8 (.cons (.var 4) .nil) [])))) (.cons .bot .nil) .nil) (.cons (.ite (.cmp .isin (.var 4) (.var 3)) (.cons .bot .nil) .nil) (.cons (.app (.var 3) (.var 4)) .nil)))) (.cons (.sfld 0 "_family" (.frz (.bi .tuple (.var 1)))) (.cons (.sfld 0 "_neighbours" (.frz (.bi .tuple (.var 2)))) (.cons (.sfld 0 "_spots" (.frz (.bi .sorted (.frz (.lc2 (.frz (.tup (.cons (.var 4) (.cons (.var 5) .nil)))) (.one 4) (.e (.var 2)) (.one 5) (.e (.glo 2))))))) .nil)))))))
def f9 : Fn := Fn.of (mtd 15 0) (fun K => He.ma K (He.ga K "Street") "__init__") "__init__" "Street.__init__" ["self", "family", "neighbours", "known", "name", "kind"] ["self", "family", "neighbours"] b9
/-- (('R', 'same', 0),) -/
def b10 : CB := (.cons (.ite (.cmp .is (.var 1) .non) (.cons (.ret (.cmp .is (.var 0) .non)) .nil) .nil) (.cons (.ite (.cmp .is (.var 1) (.bl true)) (.cons (.ret (.cmp .is (.var 0) (.bl true))) .nil) .nil) (.cons (.ite (.cmp .is (.var 1) (.bl false)) (.cons (.ret (.cmp .is (.var 0) (.bl false))) .nil) .nil) (.cons (.ite (.e (.isi (.var 1) .str)) (.cons (.ret (.andv (.isi (.var 0) .str) (.cmp .eq (.var 0) (.var 1)))) .nil) .nil) (.cons (.ite (.e (.isi (.var 1) .int)) (.cons (.ret (.andv (.isi (.var 0) .int) (.andv (.notv (.isi (.var 0) .bool)) (.cmp .eq (.var 0) (.var 1))))) .nil) .nil) (.cons (.ite (.and (.e (.isi (.var 1) .list)) (.not (.e (.isi (.var 0) .list)))) (.cons (.ret (.bl false)) .nil) .nil) (.cons (.ite (.and (.e (.isi (.var 1) .tuple)) (.not (.e (.isi (.var 0) .tuple)))) (.cons (.ret (.bl false)) .nil) .nil) (.cons (.ite (.cmp .ne (.bi .len (.var 0)) (.bi .len (.var 1))) (.cons (.ret (.bl false)) .nil) .nil) (.cons (.fr 2 (.r1 (.bi .len (.var 1))) (.cons (.ite (.not (.e (.frz (.call 10 (.cons (.idx (.var 0) (.var 2)) (.cons (.idx (.var 1) (.var 2)) .nil)) [])))) (.cons (.ret (.bl false)) .nil) .nil) .nil)) (.cons (.ret (.bl true)) .nil))))))))))
def f10 : Fn := Fn.of (top 24) (fun K => He.ga K "_law_same") "_law_same" "_law_same" ["_law_actual", "_law_expected", "_law_k"] ["_law_actual", "_law_expected"] b10
/-- (('R', 'same', 1),) -/
def b11 : CB := (.cons (.ite (.cmp .is (.var 1) .non) (.cons (.ret (.cmp .is (.var 0) .non)) .nil) .nil) (.cons (.ite (.cmp .is (.var 1) (.bl true)) (.cons (.ret (.cmp .is (.var 0) (.bl true))) .nil) .nil) (.cons (.ite (.cmp .is (.var 1) (.bl false)) (.cons (.ret (.cmp .is (.var 0) (.bl false))) .nil) .nil) (.cons (.ite (.e (.isi (.var 1) .str)) (.cons (.ret (.andv (.isi (.var 0) .str) (.cmp .eq (.var 0) (.var 1)))) .nil) .nil) (.cons (.ite (.e (.isi (.var 1) .int)) (.cons (.ret (.andv (.isi (.var 0) .int) (.andv (.notv (.isi (.var 0) .bool)) (.cmp .eq (.var 0) (.var 1))))) .nil) .nil) (.cons (.ite (.and (.e (.isi (.var 1) .list)) (.not (.e (.isi (.var 0) .list)))) (.cons (.ret (.bl false)) .nil) .nil) (.cons (.ite (.and (.e (.isi (.var 1) .tuple)) (.not (.e (.isi (.var 0) .tuple)))) (.cons (.ret (.bl false)) .nil) .nil) (.cons (.ite (.cmp .ne (.bi .len (.var 0)) (.bi .len (.var 1))) (.cons (.ret (.bl false)) .nil) .nil) (.cons (.fr 2 (.r1 (.bi .len (.var 1))) (.cons (.ite (.not (.e (.frz (.call 10 (.cons (.idx (.var 0) (.var 2)) (.cons (.idx (.var 1) (.var 2)) .nil)) [])))) (.cons (.ret (.bl false)) .nil) .nil) .nil)) (.cons (.ret (.bl true)) .nil))))))))))
def f11 : Fn := Fn.of (top 24) (fun K => He.ga K "_law_same") "_law_same" "_law_same" ["_law_actual", "_law_expected", "_law_k"] ["_law_actual", "_law_expected"] b11
/-- (('R', 'same', 2),) -/
def b12 : CB := (.cons (.ite (.cmp .is (.var 1) .non) (.cons (.ret (.cmp .is (.var 0) .non)) .nil) .nil) (.cons (.ite (.cmp .is (.var 1) (.bl true)) (.cons (.ret (.cmp .is (.var 0) (.bl true))) .nil) .nil) (.cons (.ite (.cmp .is (.var 1) (.bl false)) (.cons (.ret (.cmp .is (.var 0) (.bl false))) .nil) .nil) (.cons (.ite (.e (.isi (.var 1) .str)) (.cons (.ret (.andv (.isi (.var 0) .str) (.cmp .eq (.var 0) (.var 1)))) .nil) .nil) (.cons (.ite (.e (.isi (.var 1) .int)) (.cons (.ret (.andv (.isi (.var 0) .int) (.andv (.notv (.isi (.var 0) .bool)) (.cmp .eq (.var 0) (.var 1))))) .nil) .nil) (.cons (.ite (.and (.e (.isi (.var 1) .list)) (.not (.e (.isi (.var 0) .list)))) (.cons (.ret (.bl false)) .nil) .nil) (.cons (.ite (.and (.e (.isi (.var 1) .tuple)) (.not (.e (.isi (.var 0) .tuple)))) (.cons (.ret (.bl false)) .nil) .nil) (.cons (.ite (.cmp .ne (.bi .len (.var 0)) (.bi .len (.var 1))) (.cons (.ret (.bl false)) .nil) .nil) (.cons (.fr 2 (.r1 (.bi .len (.var 1))) (.cons (.ite (.not (.e (.frz (.call 11 (.cons (.idx (.var 0) (.var 2)) (.cons (.idx (.var 1) (.var 2)) .nil)) [])))) (.cons (.ret (.bl false)) .nil) .nil) .nil)) (.cons (.ret (.bl true)) .nil))))))))))
def f12 : Fn := Fn.of (top 24) (fun K => He.ga K "_law_same") "_law_same" "_law_same" ["_law_actual", "_law_expected", "_law_k"] ["_law_actual", "_law_expected"] b12
/-- (('R', 'same', 3),) -/
def b13 : CB := (.cons (.ite (.cmp .is (.var 1) .non) (.cons (.ret (.cmp .is (.var 0) .non)) .nil) .nil) (.cons (.ite (.cmp .is (.var 1) (.bl true)) (.cons (.ret (.cmp .is (.var 0) (.bl true))) .nil) .nil) (.cons (.ite (.cmp .is (.var 1) (.bl false)) (.cons (.ret (.cmp .is (.var 0) (.bl false))) .nil) .nil) (.cons (.ite (.e (.isi (.var 1) .str)) (.cons (.ret (.andv (.isi (.var 0) .str) (.cmp .eq (.var 0) (.var 1)))) .nil) .nil) (.cons (.ite (.e (.isi (.var 1) .int)) (.cons (.ret (.andv (.isi (.var 0) .int) (.andv (.notv (.isi (.var 0) .bool)) (.cmp .eq (.var 0) (.var 1))))) .nil) .nil) (.cons (.ite (.and (.e (.isi (.var 1) .list)) (.not (.e (.isi (.var 0) .list)))) (.cons (.ret (.bl false)) .nil) .nil) (.cons (.ite (.and (.e (.isi (.var 1) .tuple)) (.not (.e (.isi (.var 0) .tuple)))) (.cons (.ret (.bl false)) .nil) .nil) (.cons (.ite (.cmp .ne (.bi .len (.var 0)) (.bi .len (.var 1))) (.cons (.ret (.bl false)) .nil) .nil) (.cons (.fr 2 (.r1 (.bi .len (.var 1))) (.cons (.ite (.not (.e (.frz (.call 12 (.cons (.idx (.var 0) (.var 2)) (.cons (.idx (.var 1) (.var 2)) .nil)) [])))) (.cons (.ret (.bl false)) .nil) .nil) .nil)) (.cons (.ret (.bl true)) .nil))))))))))
def f13 : Fn := Fn.of (top 24) (fun K => He.ga K "_law_same") "_law_same" "_law_same" ["_law_actual", "_law_expected", "_law_k"] ["_law_actual", "_law_expected"] b13
/-- (('Street', 'spots'),) -/
def b14 : CB := (.cons (.ret (.bi .list (.fld (.var 0) "_spots"))) .nil)
def f14 : Fn := Fn.of (mtd 15 4) (fun K => He.ma K (He.ga K "Street") "spots") "spots" "Street.spots" ["self"] ["self"] b14
/-- (('Street', 'family'),) -/
def b15 : CB := (.cons (.ret (.fld (.var 0) "_family")) .nil)
def f15 : Fn := Fn.of (mtd 15 1) (fun K => pG K "Street" "family") "family" "Street.family" ["self"] ["self"] b15
/-- (('Street', 'neighbours'),) -/
def b16 : CB := (.cons (.ret (.fld (.var 0) "_neighbours")) .nil)
def f16 : Fn := Fn.of (mtd 15 2) (fun K => pG K "Street" "neighbours") "neighbours" "Street.neighbours" ["self"] ["self"] b16
/-- ('tells',) -/
def b17 : CB := (.cons (.ite (.or (.not (.e (.frz (.call 13 (.cons (.frz (.prp (.var 0) "family")) (.cons (.frz (.bi .tuple (.var 1))) .nil)) [])))) (.not (.e (.frz (.call 13 (.cons (.frz (.prp (.var 0) "neighbours")) (.cons (.frz (.bi .tuple (.var 2))) .nil)) []))))) (.cons (.ret (.bl false)) .nil) .nil) (.cons (.set 3 (.mth (.var 0) "spots" .nil [])) (.cons (.ite (.or (.not (.e (.isi (.var 3) .list))) (.cmp .ne (.bi .len (.var 3)) (.bin .mul (.int 2) (.bi .len (.var 2))))) (.cons (.ret (.bl false)) .nil) .nil) (.cons (.fr 4 (.r1 (.bi .len (.var 3))) (.cons (.ite (.or (.not (.e (.isi (.idx (.var 3) (.var 4)) .tuple))) (.cmp .ne (.bi .len (.idx (.var 3) (.var 4))) (.int 2))) (.cons (.ret (.bl false)) .nil) .nil) (.cons (.ite (.or (.not (.e (.isi (.idx (.idx (.var 3) (.var 4)) (.int 0)) .str))) (.cmp .notin (.idx (.idx (.var 3) (.var 4)) (.int 0)) (.var 2))) (.cons (.ret (.bl false)) .nil) .nil) (.cons (.ite (.or (.not (.e (.isi (.idx (.idx (.var 3) (.var 4)) (.int 1)) .str))) (.cmp .notin (.idx (.idx (.var 3) (.var 4)) (.int 1)) (.frz (.lst (.cons (.str "copy") (.cons (.str "set") .nil)))))) (.cons (.ret (.bl false)) .nil) .nil) (.cons (.ite (.and (.cmp .gt (.var 4) (.int 0)) (.not (.cmp .lt (.idx (.var 3) (.bin .sub (.var 4) (.int 1))) (.idx (.var 3) (.var 4))))) (.cons (.ret (.bl false)) .nil) .nil) .nil))))) (.cons (.clr (.var 3)) (.cons (.ret (.bl true)) .nil))))))
def f17 : Fn := Fn.of (top 27) (fun K => He.ga K "_law_tells") "_law_tells" "_law_tells" ["_law_street", "_law_family", "_law_neighbours", "_law_told", "_law_k"] ["_law_street", "_law_family", "_law_neighbours"] b17
/-- ('law',) -/
def b18 : CB := (.cons (.set 1 (.frz (.call 5 (.cons (.var 0) (.cons (.int 4) (.cons (.int 8) .nil))) []))) (.cons (.set 2 (.frz (.call 7 (.cons (.frz (.call 4 (.cons (.var 0) (.cons (.int 2) .nil)) [])) (.cons (.int 3) (.cons (.idx (.var 1) (.int 0)) (.cons (.idx (.var 1) (.int 1)) .nil)))) []))) (.cons (.set 3 (.frz (.call 0 (.cons (.frz (.call 4 (.cons (.var 0) (.cons (.int 3) .nil)) [])) (.cons (.int 4) (.cons (.frz (.lst (.cons (.int 2) .nil))) .nil))) []))) (.cons (.set 4 (.lst (.cons (.bi .list (.idx (.var 1) (.int 0))) (.cons (.bi .list (.idx (.var 1) (.int 1))) .nil)))) (.cons (.set 5 (.frz (.mk 0 9 (.cons (.idx (.var 4) (.int 0)) (.cons (.idx (.var 4) (.int 1)) .nil)) []))) (.cons (.set 6 (.frz (.mk 0 9 (.cons (.frz (.bi .list (.idx (.var 2) (.int 0)))) (.cons (.frz (.bi .list (.idx (.var 2) (.int 1)))) .nil)) []))) (.cons (.ite (.cmp .eq (.idx (.var 3) (.int 0)) (.int 1)) (.cons (.set 6 (.frz (.mk 0 9 (.cons (.frz (.bi .tuple (.idx (.var 2) (.int 0)))) (.cons (.frz (.bi .tuple (.idx (.var 2) (.int 1)))) .nil)) []))) .nil) .nil) (.cons (.ite (.not (.e (.frz (.calL 13 (.cons (.var 4) (.cons (.var 1) .nil)) [])))) (.cons (.ret (.bl false)) .nil) .nil) (.cons (.app (.idx (.var 4) (.int 0)) (.str "late")) (.cons (.sidx (.idx (.var 4) (.int 1)) (.int 0) (.str "late")) (.cons (.rvs (.idx (.var 4) (.int 1))) (.cons (.fr 7 (.r1 (.int 2)) (.cons (.ite (.or (.not (.e (.frz (.call 17 (.cons (.var 5) (.cons (.idx (.var 1) (.int 0)) (.cons (.idx (.var 1) (.int 1)) .nil))) [])))) (.not (.e (.frz (.call 17 (.cons (.var 6) (.cons (.idx (.var 2) (.int 0)) (.cons (.idx (.var 2) (.int 1)) .nil))) []))))) (.cons (.ret (.bl false)) .nil) .nil) .nil)) (.cons (.ite (.cmp .isnot (.cmp .eq (.var 5) (.frz (.mk 0 9 (.cons (.frz (.bi .tuple (.idx (.var 1) (.int 0)))) (.cons (.frz (.bi .list (.idx (.var 1) (.int 1)))) .nil)) []))) (.bl true)) (.cons (.ret (.bl false)) .nil) .nil) (.cons (.ite (.and (.cmp .eq (.idx (.var 1) (.int 0)) (.idx (.var 2) (.int 0))) (.cmp .eq (.idx (.var 1) (.int 1)) (.idx (.var 2) (.int 1)))) (.cons (.ret (.andv (.cmp .is (.cmp .eq (.var 5) (.var 6)) (.bl true)) (.cmp .is (.cmp .eq (.var 6) (.var 5)) (.bl true)))) .nil) .nil) (.cons (.ret (.andv (.notv (.cmp .eq (.var 5) (.var 6))) (.notv (.cmp .eq (.var 6) (.var 5))))) .nil)))))))))))))))
def f18 : Fn := Fn.of (top 28) (fun K => He.ga K "law") "law" "law" ["_law_script", "_law_people_here", "_law_near_here", "_law_got", "_law_given", "_law_street", "_law_other", "_law_turn"] ["_law_script"] b18
def src : Src := ⟨[f0, f1, f2, f3, f4, f5, f6, f7, f8, f9, f10, f11, f12, f13, f14, f15, f16, f17, f18], [some "_law_draw", some "_law_word", none, some "_law_names", some "_law_cell", some "_law_people", some "_law_fresh", some "_law_near", some "is_name", none, some "_law_same", some "_law_same", some "_law_same", some "_law_same", none, none, none, some "_law_tells", some "law"], [("LETTERS", .str "abcdefghijklmnopqrstuvwxyz"), ("MOST_LETTERS", .int 8), ("KINDS", .tup ["copy", "set"]), ("MOST_FAMILY", .int 4), ("MOST_NEIGHBOURS", .int 8)], [{ name := "Street", flds := ["_family", "_neighbours", "_spots"], mths := [("spots", 14), ("__eq__", 2)], prps := [("family", 15), ("neighbours", 16)], sups := [0] }], [some 9], fun _ _ => []⟩
@[simp] theorem fi_0_0 : ixOf "_family" (src.pg.ci 0).flds = some 0 := by rfl
@[simp] theorem fi_0_1 : ixOf "_neighbours" (src.pg.ci 0).flds = some 1 := by rfl
@[simp] theorem fi_0_2 : ixOf "_spots" (src.pg.ci 0).flds = some 2 := by rfl
@[simp] theorem mi_0_spots : asc "spots" (src.pg.ci 0).mths = some 14 := by rfl
@[simp] theorem mi_0_eq : asc "__eq__" (src.pg.ci 0).mths = some 2 := by rfl
@[simp] theorem pi_0_family : asc "family" (src.pg.ci 0).prps = some 15 := by rfl
@[simp] theorem pi_0_neighbours : asc "neighbours" (src.pg.ci 0).prps = some 16 := by rfl
@[simp] theorem si_0 : (src.pg.ci 0).sups = [0] := by rfl
set_option maxHeartbeats 0 in
theorem c0 : f0.chk src.pg = true := by decide +kernel
set_option maxHeartbeats 0 in
theorem c1 : f1.chk src.pg = true := by decide +kernel
set_option maxHeartbeats 0 in
theorem c2 : f2.chk src.pg = true := by decide +kernel
set_option maxHeartbeats 0 in
theorem c3 : f3.chk src.pg = true := by decide +kernel
set_option maxHeartbeats 0 in
theorem c4 : f4.chk src.pg = true := by decide +kernel
set_option maxHeartbeats 0 in
theorem c5 : f5.chk src.pg = true := by decide +kernel
set_option maxHeartbeats 0 in
theorem c6 : f6.chk src.pg = true := by decide +kernel
set_option maxHeartbeats 0 in
theorem c7 : f7.chk src.pg = true := by decide +kernel
set_option maxHeartbeats 0 in
theorem c8 : f8.chk src.pg = true := by decide +kernel
set_option maxHeartbeats 0 in
theorem c9 : f9.chk src.pg = true := by decide +kernel
set_option maxHeartbeats 0 in
theorem c10 : f10.chk src.pg = true := by decide +kernel
set_option maxHeartbeats 0 in
theorem c11 : f11.chk src.pg = true := by decide +kernel
set_option maxHeartbeats 0 in
theorem c12 : f12.chk src.pg = true := by decide +kernel
set_option maxHeartbeats 0 in
theorem c13 : f13.chk src.pg = true := by decide +kernel
set_option maxHeartbeats 0 in
theorem c14 : f14.chk src.pg = true := by decide +kernel
set_option maxHeartbeats 0 in
theorem c15 : f15.chk src.pg = true := by decide +kernel
set_option maxHeartbeats 0 in
theorem c16 : f16.chk src.pg = true := by decide +kernel
set_option maxHeartbeats 0 in
theorem c17 : f17.chk src.pg = true := by decide +kernel
set_option maxHeartbeats 0 in
theorem c18 : f18.chk src.pg = true := by decide +kernel
theorem chk : src.fns.all (fun f => f.chk src.pg) = true := by
  show [f0, f1, f2, f3, f4, f5, f6, f7, f8, f9, f10, f11, f12, f13, f14, f15, f16, f17, f18].all (fun f => f.chk src.pg) = true
  simp only [List.all_cons, List.all_nil, c0, c1, c2, c3, c4, c5, c6, c7, c8, c9, c10, c11, c12, c13, c14, c15, c16, c17, c18, Bool.and_self]
section
variable {K : PySem.W.Frag} {h : Heap} {mg : Str → Option Value}
theorem hat (c : SaysV [src.ok] src.fns K) : ∀ (i : Nat) (f : Fn), src.fns[i]? = some f → ∃ fd, At K (src.df i) ⟨K, src.ca K, src.pg.ci⟩ f fd
  | 0, f, e => by
    cases e
    obtain ⟨fd, F⟩ := c.def_ 0 (d := f0) rfl
    have b : Binds K fd f0.ps [] := F.bindsN fun _ _ _ _ _ _ us hl => match us, hl with | [_, _, _], _ => rfl
    exact ⟨fd, F, b, fun _ _ => ⟨[], [], .nil, b, fun _ => Rps.nil'⟩⟩
  | 1, f, e => by
    cases e
    obtain ⟨fd, F⟩ := c.def_ 1 (d := f1) rfl
    have b : Binds K fd f1.ps [] := F.bindsN fun _ _ _ _ _ _ us hl => match us, hl with | [_], _ => rfl
    exact ⟨fd, F, b, fun _ _ => ⟨[], [], .nil, b, fun _ => Rps.nil'⟩⟩
  | 2, f, e => by
    cases e
    obtain ⟨fd, F⟩ := c.def_ 2 (d := f2) rfl
    have b : Binds K fd f2.ps [] := F.bindsN fun _ _ _ _ _ _ us hl => match us, hl with | [_, _], _ => rfl
    exact ⟨fd, F, b, fun _ _ => ⟨[], [], .nil, b, fun _ => Rps.nil'⟩⟩
  | 3, f, e => by
    cases e
    obtain ⟨fd, F⟩ := c.def_ 3 (d := f3) rfl
    have b : Binds K fd f3.ps [] := F.bindsN fun _ _ _ _ _ _ us hl => match us, hl with | [_, _, _], _ => rfl
    exact ⟨fd, F, b, fun _ _ => ⟨[], [], .nil, b, fun _ => Rps.nil'⟩⟩
  | 4, f, e => by
    cases e
    obtain ⟨fd, F⟩ := c.def_ 4 (d := f4) rfl
    have b : Binds K fd f4.ps [] := F.bindsN fun _ _ _ _ _ _ us hl => match us, hl with | [_, _], _ => rfl
    exact ⟨fd, F, b, fun _ _ => ⟨[], [], .nil, b, fun _ => Rps.nil'⟩⟩
  | 5, f, e => by
    cases e
    obtain ⟨fd, F⟩ := c.def_ 5 (d := f5) rfl
    have b : Binds K fd f5.ps [] := F.bindsN fun _ _ _ _ _ _ us hl => match us, hl with | [_, _, _], _ => rfl
    exact ⟨fd, F, b, fun _ _ => ⟨[], [], .nil, b, fun _ => Rps.nil'⟩⟩
  | 6, f, e => by
    cases e
    obtain ⟨fd, F⟩ := c.def_ 6 (d := f6) rfl
    have b : Binds K fd f6.ps [] := F.bindsN fun _ _ _ _ _ _ us hl => match us, hl with | [_, _], _ => rfl
    exact ⟨fd, F, b, fun _ _ => ⟨[], [], .nil, b, fun _ => Rps.nil'⟩⟩
  | 7, f, e => by
    cases e
    obtain ⟨fd, F⟩ := c.def_ 7 (d := f7) rfl
    have b : Binds K fd f7.ps [] := F.bindsN fun _ _ _ _ _ _ us hl => match us, hl with | [_, _, _, _], _ => rfl
    exact ⟨fd, F, b, fun _ _ => ⟨[], [], .nil, b, fun _ => Rps.nil'⟩⟩
  | 8, f, e => by
    cases e
    obtain ⟨fd, F⟩ := c.def_ 8 (d := f8) rfl
    have b : Binds K fd f8.ps [] := F.bindsN fun _ _ _ _ _ _ us hl => match us, hl with | [_], _ => rfl
    exact ⟨fd, F, b, fun _ _ => ⟨[], [], .nil, b, fun _ => Rps.nil'⟩⟩
  | 9, f, e => by
    cases e
    obtain ⟨fd, F⟩ := c.def_ 9 (d := f9) rfl
    have b : Binds K fd f9.ps [] := F.bindsN fun _ _ _ _ _ _ us hl => match us, hl with | [_, _, _], _ => rfl
    exact ⟨fd, F, b, fun _ _ => ⟨[], [], .nil, b, fun _ => Rps.nil'⟩⟩
  | 10, f, e => by
    cases e
    obtain ⟨fd, F⟩ := c.def_ 10 (d := f10) rfl
    have b : Binds K fd f10.ps [] := F.bindsN fun _ _ _ _ _ _ us hl => match us, hl with | [_, _], _ => rfl
    exact ⟨fd, F, b, fun _ _ => ⟨[], [], .nil, b, fun _ => Rps.nil'⟩⟩
  | 11, f, e => by
    cases e
    obtain ⟨fd, F⟩ := c.def_ 11 (d := f11) rfl
    have b : Binds K fd f11.ps [] := F.bindsN fun _ _ _ _ _ _ us hl => match us, hl with | [_, _], _ => rfl
    exact ⟨fd, F, b, fun _ _ => ⟨[], [], .nil, b, fun _ => Rps.nil'⟩⟩
  | 12, f, e => by
    cases e
    obtain ⟨fd, F⟩ := c.def_ 12 (d := f12) rfl
    have b : Binds K fd f12.ps [] := F.bindsN fun _ _ _ _ _ _ us hl => match us, hl with | [_, _], _ => rfl
    exact ⟨fd, F, b, fun _ _ => ⟨[], [], .nil, b, fun _ => Rps.nil'⟩⟩
  | 13, f, e => by
    cases e
    obtain ⟨fd, F⟩ := c.def_ 13 (d := f13) rfl
    have b : Binds K fd f13.ps [] := F.bindsN fun _ _ _ _ _ _ us hl => match us, hl with | [_, _], _ => rfl
    exact ⟨fd, F, b, fun _ _ => ⟨[], [], .nil, b, fun _ => Rps.nil'⟩⟩
  | 14, f, e => by
    cases e
    obtain ⟨fd, F⟩ := c.def_ 14 (d := f14) rfl
    have b : Binds K fd f14.ps [] := F.bindsN fun _ _ _ _ _ _ us hl => match us, hl with | [_], _ => rfl
    exact ⟨fd, F, b, fun _ _ => ⟨[], [], .nil, b, fun _ => Rps.nil'⟩⟩
  | 15, f, e => by
    cases e
    obtain ⟨fd, F⟩ := c.def_ 15 (d := f15) rfl
    have b : Binds K fd f15.ps [] := F.bindsN fun _ _ _ _ _ _ us hl => match us, hl with | [_], _ => rfl
    exact ⟨fd, F, b, fun _ _ => ⟨[], [], .nil, b, fun _ => Rps.nil'⟩⟩
  | 16, f, e => by
    cases e
    obtain ⟨fd, F⟩ := c.def_ 16 (d := f16) rfl
    have b : Binds K fd f16.ps [] := F.bindsN fun _ _ _ _ _ _ us hl => match us, hl with | [_], _ => rfl
    exact ⟨fd, F, b, fun _ _ => ⟨[], [], .nil, b, fun _ => Rps.nil'⟩⟩
  | 17, f, e => by
    cases e
    obtain ⟨fd, F⟩ := c.def_ 17 (d := f17) rfl
    have b : Binds K fd f17.ps [] := F.bindsN fun _ _ _ _ _ _ us hl => match us, hl with | [_, _, _], _ => rfl
    exact ⟨fd, F, b, fun _ _ => ⟨[], [], .nil, b, fun _ => Rps.nil'⟩⟩
  | 18, f, e => by
    cases e
    obtain ⟨fd, F⟩ := c.def_ 18 (d := f18) rfl
    have b : Binds K fd f18.ps [] := F.bindsN fun _ _ _ _ _ _ us hl => match us, hl with | [_], _ => rfl
    exact ⟨fd, F, b, fun _ _ => ⟨[], [], .nil, b, fun _ => Rps.nil'⟩⟩
  | n + 19, f, e => by cases e
theorem pgh (X : K.In h) (G : h.Ns mainGlobals mg) (c : SaysV [src.ok] src.fns K) : PgH K mg src.pg (src.ca K) := Src.pgH X G (c.fact 0 rfl) (by decide) chk (hat c)
end
abbrev R : PySem.W.OpenRow := PySem.W.OpenLaw.row PySem.Challenge.rw_neighbourkeys_k03_street_keeps_its_names
abbrev hk : PySem.W.Hook := hookV 7 [src.ok] src.fns
def ob (s : PySem.W.SharedT) : AlV := obsVG 7 [src.ok] src.fns (HandSHeadRun.getT s)
theorem ob_eq (s : PySem.W.SharedT) : ob s = hk.obs s.abs := obsVG_eq (HandSHeadRun.getT_eq s)
def loose : List Str := ["_wall", "KeysError", "BadCount", "BadName", "DoubledName", "BadLine", "LETTERS", "MOST_LETTERS", "is_name", "KINDS", "MOST_FAMILY", "MOST_NEIGHBOURS", "Street", "are_names", "street_of_lines", "_law_cell", "_law_draw", "_law_word", "_law_names", "_law_people", "_law_same", "_law_fresh", "_law_near", "_law_tells"]
theorem run (w : World) : HandSHeadRun.RunEq R (PySem.W.view R.prog [28]) hk ob 40000 loose w := by
  intro os
  kernel_rfl
end Lw

namespace NV
open PySem L2
def tuC (T : Tb) (S : Sto) (n : Nat) : Option Cell → Out W
  | some (.lst l) => opt (unV l) fun ds => .ok (.v (.tup ds)) S
  | _ => biW T .tuple (.r n) S
@[simp] theorem tuC_l (T : Tb) (S : Sto) (n : Nat) (l : List W) : tuC T S n (some (.lst l)) = opt (unV l) fun ds => .ok (.v (.tup ds)) S := id rfl
@[simp] theorem biW_tupR (T : Tb) (n : Nat) (S : Sto) : biW T .tuple (.r n) S = tuC T S n S[n]? := by
  unfold tuC
  cases h : S[n]? with
  | none => rfl
  | some c =>
    cases c with
    | lst l =>
      unfold biW
      simp only [listOf_r, h, lstAt_some, opt_some]
      rfl
    | _ => rfl
def isC (T : Tb) (t : Ty) (S : Sto) (n : Nat) : Option Cell → Out W
  | some (.lst _) => .ok (.v (.bl (tyB t "list"))) S
  | _ => isiW T t (.r n) S
@[simp] theorem isC_l (T : Tb) (t : Ty) (S : Sto) (n : Nat) (l : List W) : isC T t S n (some (.lst l)) = .ok (.v (.bl (tyB t "list"))) S := id rfl
@[simp] theorem isiW_r (T : Tb) (t : Ty) (n : Nat) (S : Sto) : isiW T t (.r n) S = isC T t S n S[n]? := by
  unfold isC
  cases h : S[n]? with
  | none => rfl
  | some c =>
    cases c with
    | lst l =>
      unfold isiW
      simp [h, clsW, clsC]
    | _ => rfl
theorem lend_c {S : Sto} {n : Nat} {l : List W} (k : Nat) (h : S[n]? = some (.lst l)) : lend S (k + 1) (.r n) = (lends S k l).map D.lst := by
  unfold lend
  rw [h]
theorem lend_two (A B : List D) : lend [Cell.lst (A.map W.v), .lst (B.map W.v), .lst [.r 0, .r 1]] 4 (.r 2) = some (.lst [.lst A, .lst B]) := by
  have h1 : lend [Cell.lst (A.map W.v), .lst (B.map W.v), .lst [.r 0, .r 1]] 3 (.r 0) = some (.lst A) := lend_l 2 rfl
  have h2 : lend [Cell.lst (A.map W.v), .lst (B.map W.v), .lst [.r 0, .r 1]] 3 (.r 1) = some (.lst B) := lend_l 2 rfl
  refine (lend_c 3 (l := [.r 0, .r 1]) rfl).trans ?_
  rw [lends_cons, h1, lends_cons, h2]
  simp
theorem isi_spot (T : Tb) (t : Ty) (p : Str × Str) (S : Sto) : isiW T t (.v (spotD p)) S = .ok (.v (.bl (tyB t "tuple"))) S := rfl
theorem len_spot (T : Tb) (p : Str × Str) (S : Sto) : biW T .len (.v (spotD p)) S = .ok (.v (.int 2)) S := rfl
theorem lt_spot (T : Tb) (p q : Str × Str) (S : Sto) : cmpW T .lt (.v (spotD p)) (.v (spotD q)) S = .ok (.v (.bl (ltD (spotD p) (spotD q)))) S := by
  rw [cmpW_plain T .lt _ _ S rfl rfl]
  have : cmpD .lt (spotD p) (spotD q) = some (ltD (spotD p) (spotD q)) := by
    show (if datD (spotD p) = true ∧ datD (spotD q) = true ∧ ltOk 6 (spotD p) (spotD q) = true then some (ltD (spotD p) (spotD q)) else none) = _
    rw [if_pos ⟨dat_spot p, dat_spot q, shp_ltOk (.p .s .s) _ _ 6 rfl rfl (by decide)⟩]
  rw [this]
  rfl
theorem eqDs_str : ∀ a b : List Str, eqDs (sD a) (sD b) = decide (a = b)
  | [], b => by cases b <;> simp [eqDs]
  | x :: a, [] => by simp [eqDs]
  | x :: a, y :: b => by
    simp only [List.map_cons, eqDs, eqD_str, eqDs_str a b]
    by_cases h1 : x = y <;> by_cases h2 : a = b <;> simp [h1, h2]
theorem dat_strT (a : List Str) : datD (.tup (sD a)) = true := by simp [datD, datN]
theorem dat_strL (a : List Str) : datD (.lst (sD a)) = true := by simp [datD, datN]
theorem eq_strT (T : Tb) (a b : List Str) (S : Sto) : cmpW T .eq (.v (.tup (sD a))) (.v (.tup (sD b))) S = .ok (.v (.bl (decide (a = b)))) S := by
  rw [cmpW_plain T .eq _ _ S rfl rfl]
  simp only [cmpD, dat_strT, and_self, if_true, opt_some, eqD, eqDs_str]
  rfl
theorem eq_strL (T : Tb) (a b : List Str) (S : Sto) : cmpW T .eq (.v (.lst (sD a))) (.v (.lst (sD b))) S = .ok (.v (.bl (decide (a = b)))) S := by
  rw [cmpW_plain T .eq _ _ S rfl rfl]
  simp only [cmpD, dat_strL, and_self, if_true, opt_some, eqD, eqDs_str]
  rfl
end NV
namespace Lw
open PySem L2 NV
def cb_tells_l1 : CB := (.cons (.ite (.or (.not (.e (.isi (.idx (.var 3) (.var 4)) .tuple))) (.cmp .ne (.bi .len (.idx (.var 3) (.var 4))) (.int 2))) (.cons (.ret (.bl false)) .nil) .nil) (.cons (.ite (.or (.not (.e (.isi (.idx (.idx (.var 3) (.var 4)) (.int 0)) .str))) (.cmp .notin (.idx (.idx (.var 3) (.var 4)) (.int 0)) (.var 2))) (.cons (.ret (.bl false)) .nil) .nil) (.cons (.ite (.or (.not (.e (.isi (.idx (.idx (.var 3) (.var 4)) (.int 1)) .str))) (.cmp .notin (.idx (.idx (.var 3) (.var 4)) (.int 1)) (.frz (.lst (.cons (.str "copy") (.cons (.str "set") .nil)))))) (.cons (.ret (.bl false)) .nil) .nil) (.cons (.ite (.and (.cmp .gt (.var 4) (.int 0)) (.not (.cmp .lt (.idx (.var 3) (.bin .sub (.var 4) (.int 1))) (.idx (.var 3) (.var 4))))) (.cons (.ret (.bl false)) .nil) .nil) .nil))))
def cb_tells (f_same : Nat) : CB := (.cons (.ite (.or (.not (.e (.frz (.call f_same (.cons (.frz (.prp (.var 0) "family")) (.cons (.frz (.bi .tuple (.var 1))) .nil)) [])))) (.not (.e (.frz (.call f_same (.cons (.frz (.prp (.var 0) "neighbours")) (.cons (.frz (.bi .tuple (.var 2))) .nil)) []))))) (.cons (.ret (.bl false)) .nil) .nil) (.cons (.set 3 (.mth (.var 0) "spots" .nil [])) (.cons (.ite (.or (.not (.e (.isi (.var 3) .list))) (.cmp .ne (.bi .len (.var 3)) (.bin .mul (.int 2) (.bi .len (.var 2))))) (.cons (.ret (.bl false)) .nil) .nil) (.cons (.fr 4 (.r1 (.bi .len (.var 3))) cb_tells_l1) (.cons (.clr (.var 3)) (.cons (.ret (.bl true)) .nil))))))
def cb_law_l1 (f_tells : Nat) : CB := (.cons (.ite (.or (.not (.e (.frz (.call f_tells (.cons (.var 5) (.cons (.idx (.var 1) (.int 0)) (.cons (.idx (.var 1) (.int 1)) .nil))) [])))) (.not (.e (.frz (.call f_tells (.cons (.var 6) (.cons (.idx (.var 2) (.int 0)) (.cons (.idx (.var 2) (.int 1)) .nil))) []))))) (.cons (.ret (.bl false)) .nil) .nil) .nil)
def cb_law_p1 (f_tells c_Street f_Street_init : Nat) : CB := (.cons (.rvs (.idx (.var 4) (.int 1))) (.cons (.fr 7 (.r1 (.int 2)) (cb_law_l1 f_tells )) (.cons (.ite (.cmp .isnot (.cmp .eq (.var 5) (.frz (.mk c_Street  f_Street_init (.cons (.frz (.bi .tuple (.idx (.var 1) (.int 0)))) (.cons (.frz (.bi .list (.idx (.var 1) (.int 1)))) .nil)) []))) (.bl true)) (.cons (.ret (.bl false)) .nil) .nil) (.cons (.ite (.and (.cmp .eq (.idx (.var 1) (.int 0)) (.idx (.var 2) (.int 0))) (.cmp .eq (.idx (.var 1) (.int 1)) (.idx (.var 2) (.int 1)))) (.cons (.ret (.andv (.cmp .is (.cmp .eq (.var 5) (.var 6)) (.bl true)) (.cmp .is (.cmp .eq (.var 6) (.var 5)) (.bl true)))) .nil) .nil) (.cons (.ret (.andv (.notv (.cmp .eq (.var 5) (.var 6))) (.notv (.cmp .eq (.var 6) (.var 5))))) .nil)))))
def cb_law_p2 (f_same f_tells c_Street f_Street_init : Nat) : CB := (.cons (.ite (.not (.e (.frz (.calL f_same (.cons (.var 4) (.cons (.var 1) .nil)) [])))) (.cons (.ret (.bl false)) .nil) .nil) (.cons (.app (.idx (.var 4) (.int 0)) (.str "late")) (.cons (.sidx (.idx (.var 4) (.int 1)) (.int 0) (.str "late")) (cb_law_p1 f_tells  c_Street  f_Street_init ))))
def cb_law_p3 (c_Street f_Street_init f_same f_tells : Nat) : CB := (.cons (.set 4 (.lst (.cons (.bi .list (.idx (.var 1) (.int 0))) (.cons (.bi .list (.idx (.var 1) (.int 1))) .nil)))) (.cons (.set 5 (.frz (.mk c_Street  f_Street_init (.cons (.idx (.var 4) (.int 0)) (.cons (.idx (.var 4) (.int 1)) .nil)) []))) (.cons (.set 6 (.frz (.mk c_Street  f_Street_init (.cons (.frz (.bi .list (.idx (.var 2) (.int 0)))) (.cons (.frz (.bi .list (.idx (.var 2) (.int 1)))) .nil)) []))) (.cons (.ite (.cmp .eq (.idx (.var 3) (.int 0)) (.int 1)) (.cons (.set 6 (.frz (.mk c_Street  f_Street_init (.cons (.frz (.bi .tuple (.idx (.var 2) (.int 0)))) (.cons (.frz (.bi .tuple (.idx (.var 2) (.int 1)))) .nil)) []))) .nil) .nil) (cb_law_p2 f_same  f_tells  c_Street  f_Street_init )))))
def cb_law (f_people f_near f_cell f_draw c_Street f_Street_init f_same f_tells : Nat) : CB := (.cons (.set 1 (.frz (.call f_people (.cons (.var 0) (.cons (.int 4) (.cons (.int 8) .nil))) []))) (.cons (.set 2 (.frz (.call f_near (.cons (.frz (.call f_cell (.cons (.var 0) (.cons (.int 2) .nil)) [])) (.cons (.int 3) (.cons (.idx (.var 1) (.int 0)) (.cons (.idx (.var 1) (.int 1)) .nil)))) []))) (.cons (.set 3 (.frz (.call f_draw (.cons (.frz (.call f_cell (.cons (.var 0) (.cons (.int 3) .nil)) [])) (.cons (.int 4) (.cons (.frz (.lst (.cons (.int 2) .nil))) .nil))) []))) (cb_law_p3 c_Street  f_Street_init  f_same  f_tells ))))
abbrev TT (t : Nat → Sto → List W → Out W) : Tb := ⟨t, src.pg.cd, src.pg.ci⟩
variable (t : Nat → Sto → List W → Out W)
theorem cst : CSt (TT t) 0 := ⟨rfl, rfl, rfl⟩
theorem gst : GSt (TT t) 3 4 2 := ⟨rfl, rfl, rfl⟩
theorem eq_spec (f n f' n' : List Str) : RV (runD (TT t) 2 (cb_Street_eq 0) [] [.v (stD 0 f n), .v (stD 0 f' n')]) (.bl (decide (f = f') && decide (n = n'))) := by
  refine ⟨[], ?_⟩
  have e1 := eq_strT (TT t) f f'
  have e2 := eq_strT (TT t) n n'
  by_cases h : f = f'
  · simp only [h, decide_true] at e1
    simp only [h, decide_true, Bool.true_and]
    simp [runD_def, cb_Street_eq, e1, e2]
  · simp only [h, decide_false] at e1
    simp only [h, decide_false, Bool.false_and]
    simp [runD_def, cb_Street_eq, e1]
theorem spots_spec' (f n : List Str) : RL (runD (TT t) 1 cb_Street_spots [] [.v (stD 0 f n)]) ((spL n).map spotD) := by
  have key : runD (TT t) 1 cb_Street_spots [] [.v (stD 0 f n)] = .ok (.r 0) [.lst (((spL n).map spotD).map W.v)] := by simp [runD_def, cb_Street_spots]
  rw [key]
  exact RL.mk' rfl
theorem fam_spec (f n : List Str) : RV (runD (TT t) 1 cb_Street_family [] [.v (stD 0 f n)]) (.tup (sD f)) := ⟨[], by simp [runD_def, cb_Street_family]⟩
theorem nei_spec (f n : List Str) : RV (runD (TT t) 1 cb_Street_neighbours [] [.v (stD 0 f n)]) (.tup (sD n)) := ⟨[], by simp [runD_def, cb_Street_neighbours]⟩
theorem init_r (hn : HIsName (TT t) 8) (fam nei : List Str) (hp : Ppl 4 8 fam nei) : runD (TT t) 6 (cb_Street_init 3 4 8 2) [.lst ((sD fam).map W.v), .lst ((sD nei).map W.v), .lst [.r 0, .r 1], .ins 0 []] [.r 3, .r 0, .r 1] = .ok (.v .non) [.lst ((sD fam).map W.v), .lst ((sD nei).map W.v), .lst [.r 0, .r 1], .ins 0 [.v (.tup (sD fam)), .v (.tup (sD nei)), .v (.lst ((spL nei).map spotD))], .lst ((sD (fam ++ nei)).map W.v)] := by
  have f1 := hp.f1; have f2 := hp.f2; have n1 := hp.n1; have n2 := hp.n2
  obtain ⟨s4, lp⟩ := init_loop (TT t) 8 4 hn (fun l => [.lst ((sD fam).map W.v), .lst ((sD nei).map W.v), .lst [.r 0, .r 1], .ins 0 [], .lst l]) (fun l => rfl) (fun l l' => rfl) (some (.r 3)) (some (.r 0)) (some (.r 1)) (.v (.lst (sD (fam ++ nei)))) (true, (sD (fam ++ nei)).map W.v) (fun l => sqOf_l _ _) (fam ++ nei) [] none none hp.nm (by simpa using hp.nd) (by simp; omega)
  have hlf : (sD fam).length = fam.length := by simp
  have hln : (sD nei).length = nei.length := by simp
  have a1 : (1 : Int) ≤ ((sD fam).length : Int) := by omega
  have a2 : ((sD fam).length : Int) ≤ 4 := by omega
  have a3 : (1 : Int) ≤ ((sD nei).length : Int) := by omega
  have a4 : ((sD nei).length : Int) ≤ 8 := by omega
  have a1' : 1 ≤ (sD fam).length := by omega
  have a2' : (sD fam).length ≤ 4 := by omega
  have a3' : 1 ≤ (sD nei).length := by omega
  have a4' : (sD nei).length ≤ 8 := by omega
  have zz : (sD fam).length + (sD nei).length ≤ 16777216 := by omega
  have g1 : src.pg.cd 3 = some (.int 4) := rfl
  have g2 : src.pg.cd 4 = some (.int 8) := rfl
  have g3 : src.pg.cd 2 = some (.tup [.str "copy", .str "set"]) := rfl
  have sp := fun (s4 : Option W) (S : Sto) (hw : seqOf S (.r 1) = some ((sD nei).map W.v)) => spots_lc2 (TT t) 2 g3 nei (by omega) (some (.r 3)) (some (.r 0)) (some (.r 1)) (some (.r 4)) s4 (.r 1) S hw
  have so := sorted_spots (TT t) (nei.flatMap both2)
  rw [spL_sortT] at so
  have ea : sD (fam ++ nei) = sD fam ++ sD nei := by simp
  simp only [List.nil_append, List.map_nil] at lp
  rw [ea] at lp ⊢
  generalize (spL nei).map spotD = SP at *
  generalize (nei.flatMap both2).map spotD = BB at *
  generalize sD fam = A at *
  generalize sD nei = B at *
  let S0 : Sto := [.lst (A.map W.v), .lst (B.map W.v), .lst [.r 0, .r 1]]
  have fz1 : frzW 5 (.r 5) [.lst (A.map W.v), .lst (B.map W.v), .lst [.r 0, .r 1], .ins 0 [], .lst [], .lst (A.map W.v ++ B.map W.v)] = .ok (.v (.lst (A ++ B))) [.lst (A.map W.v), .lst (B.map W.v), .lst [.r 0, .r 1], .ins 0 [], .lst []] := frz_new (S := [.lst (A.map W.v), .lst (B.map W.v), .lst [.r 0, .r 1], .ins 0 [], .lst []]) (by simp) (by simp)
  have fz2 : frzW 5 (.r 5) [.lst (A.map W.v), .lst (B.map W.v), .lst [.r 0, .r 1], .ins 0 [.v (.tup A), .v (.tup B)], .lst (A.map W.v ++ B.map W.v), .lst (BB.map W.v)] = .ok (.v (.lst BB)) [.lst (A.map W.v), .lst (B.map W.v), .lst [.r 0, .r 1], .ins 0 [.v (.tup A), .v (.tup B)], .lst (A.map W.v ++ B.map W.v)] := frz_new (S := [.lst (A.map W.v), .lst (B.map W.v), .lst [.r 0, .r 1], .ins 0 [.v (.tup A), .v (.tup B)], .lst (A.map W.v ++ B.map W.v)]) (by simp) (by simp)
  have fz3 : frzW 5 (.r 5) [.lst (A.map W.v), .lst (B.map W.v), .lst [.r 0, .r 1], .ins 0 [.v (.tup A), .v (.tup B)], .lst (A.map W.v ++ B.map W.v), .lst (SP.map W.v)] = .ok (.v (.lst SP)) [.lst (A.map W.v), .lst (B.map W.v), .lst [.r 0, .r 1], .ins 0 [.v (.tup A), .v (.tup B)], .lst (A.map W.v ++ B.map W.v)] := frz_new (S := [.lst (A.map W.v), .lst (B.map W.v), .lst [.r 0, .r 1], .ins 0 [.v (.tup A), .v (.tup B)], .lst (A.map W.v ++ B.map W.v)]) (by simp) (by simp)
  have sp' := sp s4 [.lst (A.map W.v), .lst (B.map W.v), .lst [.r 0, .r 1], .ins 0 [.v (.tup A), .v (.tup B)], .lst (A.map W.v ++ B.map W.v)] rfl
  have so' := so [.lst (A.map W.v), .lst (B.map W.v), .lst [.r 0, .r 1], .ins 0 [.v (.tup A), .v (.tup B)], .lst (A.map W.v ++ B.map W.v)]
  have sk : ∀ S : Sto, seqK (.r 1) S = opt (seqOf S (.r 1)) fun _ => .ok (.r 1) S := fun S => rfl
  simp only [List.map_append] at lp
  simp [runD_def, cb_Street_init, List.replicate, Tg.ns, g1, g2, a1, a2, a3, a4, a1', a2', a3', a4', zz, fz1, lp, sk, sp', so', fz2, fz3]

structure HT (t : Nat → Sto → List W → Out W) : Prop where
  same : HSame (TT t) 13 3
  spots : ∀ f n : List Str, RL (t 14 [] [.v (stD 0 f n)]) ((spL n).map spotD)
  fam : ∀ f n : List Str, RV (t 15 [] [.v (stD 0 f n)]) (.tup (sD f))
  nei : ∀ f n : List Str, RV (t 16 [] [.v (stD 0 f n)]) (.tup (sD n))
variable {t}
theorem same_T (l : List Str) (h : l.length < 1000) : sameD 3 (.tup (sD l)) = true := by
  simp [sameD, flatD]
  omega
theorem tells_loop (a b : Option W) (nei : List Str) (hnd : nei.Nodup) (hl : nei.length < 100) (w : W) (p : Bool × List W) (hq : ∀ S, sqOf S w = some p) : ∀ (m k : Nat) (s4 : Option W), k + m = (spL nei).length → ∃ s4', forW (lpS (execs (TT t) cb_tells_l1) 4) w p ((rangeD k m).map W.v) [a, b, some (.v (.lst (sD nei))), some (.r 0), s4] [.lst (((spL nei).map spotD).map W.v)] = .nx [a, b, some (.v (.lst (sD nei))), some (.r 0), s4'] [.lst (((spL nei).map spotD).map W.v)]
  | 0, k, s4, _ => ⟨s4, rfl⟩
  | m + 1, k, s4, hk => by
    obtain ⟨s4', ih⟩ := tells_loop a b nei hnd hl w p hq m (k + 1) (some (.v (.int k))) (by omega)
    refine ⟨s4', ?_⟩
    rw [rangeD_succ]
    refine (forW_cons ?_ (hq _)).trans ih
    have hk0 : k < (spL nei).length := by omega
    have hm := mem_spL.mp (List.getElem_mem hk0)
    have g1 : (((spL nei).map spotD).map W.v)[k]? = some (.v (spotD (spL nei)[k])) := by simp [hk0]
    have c1 := notinV_str (TT t) (spL nei)[k].1 nei
    have c2 : ∀ S, cmpW (TT t) .notin (.v (.str (spL nei)[k].2)) (.v (.lst [.str "copy", .str "set"])) S = .ok (.v (.bl (!decide ((spL nei)[k].2 ∈ ([("copy" : Str), "set"] : List Str))))) S := notinV_str (TT t) (spL nei)[k].2 ["copy", "set"]
    have hm2 : (spL nei)[k].2 ∈ ([("copy" : Str), "set"] : List Str) := by rcases hm.2 with e | e <;> simp [e]
    simp only [hm.1, hm2, decide_true, Bool.not_true] at c1 c2
    have fz : frzW 1 (.r 1) [.lst (((spL nei).map spotD).map W.v), .lst [.v (.str "copy"), .v (.str "set")]] = .ok (.v (.lst [.str "copy", .str "set"])) [.lst (((spL nei).map spotD).map W.v)] := frz_new (S := [.lst (((spL nei).map spotD).map W.v)]) (by simp) (by simp)
    by_cases k0 : k = 0
    · subst k0
      generalize sD nei = B at *
      generalize ((spL nei).map spotD).map W.v = L at *
      generalize (spL nei)[0] = q at *
      simp only [Int.natCast_zero] at *
      simp [cb_tells_l1, g1, isi_spot, len_spot, tyB, c1, c2, fz]
    · have hk1 : k - 1 < (spL nei).length := by omega
      have g2 : atI (((spL nei).map spotD).map W.v) ((k : Int) - 1) = some (.v (spotD (spL nei)[k - 1])) := by
        rw [atI_int _ (by omega), show ((k : Int) - 1).toNat = k - 1 from by omega]; simp [hk1]
      have hlt : ltD (spotD (spL nei)[k - 1]) (spotD (spL nei)[k]) = true := List.pairwise_iff_getElem.mp (spL_lt hnd) (k - 1) k hk1 hk0 (by omega)
      have c3 := lt_spot (TT t) (spL nei)[k - 1] (spL nei)[k]
      rw [hlt] at c3
      have kp : (0 : Int) < (k : Int) := by omega
      have kp' : 0 < k := by omega
      generalize sD nei = B at *
      generalize ((spL nei).map spotD).map W.v = L at *
      generalize (spL nei)[k - 1] = q' at *
      generalize (spL nei)[k] = q at *
      simp [cb_tells_l1, g1, g2, isi_spot, len_spot, tyB, c1, c2, c3, fz, kp, kp']
theorem tells_spec (h : HT t) (fam nei : List Str) (hp : Ppl 4 8 fam nei) : RV (runD (TT t) 5 (cb_tells 13) [] [.v (stD 0 fam nei), .v (.lst (sD fam)), .v (.lst (sD nei))]) (.bl true) := by
  have f2 := hp.f2; have n2 := hp.n2
  have hnd : nei.Nodup := (List.nodup_append.mp hp.nd).2.1
  have s1 := h.same.call (same_T fam (by omega)) []
  have s2 := h.same.call (same_T nei (by omega)) []
  have p1 := RV.c1 (T := TT t) (h.fam fam nei) []
  have p2 := RV.c1 (T := TT t) (h.nei fam nei) []
  have p3 := RL.c1 (T := TT t) (h.spots fam nei) []
  obtain ⟨s4, lp⟩ := tells_loop (t := t) (some (.v (stD 0 fam nei))) (some (.v (.lst (sD fam)))) nei hnd (by omega) (.v (.tup (rangeD 0 (spL nei).length))) (false, (rangeD 0 (spL nei).length).map W.v) (fun S => sqOf_t S _) (spL nei).length 0 none (by omega)
  have hls : (spL nei).length = 2 * nei.length := spL_len nei
  have hl1 : ((spL nei).map spotD).length = 2 * (sD nei).length := by simp [hls]
  have k1 : (((spL nei).map spotD).length : Int) < 4611686018427387904 := by simp; omega
  have k2 : -4611686018427387904 ≤ (((spL nei).map spotD).length : Int) := by omega
  have e2 : smallI 2 = true := by decide
  have elen : (spL nei).length = ((spL nei).map spotD).length := by simp
  rw [elen] at lp
  simp only [Int.natCast_zero, List.length_nil, List.nil_append] at lp p3
  refine ⟨[.lst []], ?_⟩
  simp only [stD] at *
  generalize (spL nei).map spotD = SP at *
  generalize sD fam = A at *
  generalize sD nei = B at *
  have hl2 : (SP.length : Int) = 2 * (B.length : Int) := by omega
  have k1' : 2 * (B.length : Int) < 4611686018427387904 := by omega
  have k2' : -4611686018427387904 ≤ 2 * (B.length : Int) := by omega
  have et : (2 * (B.length : Int)).toNat = 2 * B.length := by omega
  rw [hl1] at lp
  simp [runD_def, cb_tells, List.replicate, p1, p2, p3, s1, s2, tyB, e2, hl2, hl1, k1', k2', et, lp]

structure HL (t : Nat → Sto → List W → Out W) : Prop extends HT t where
  cell : HCell (TT t) 4
  draw : HDraw (TT t) 0
  people : HPeople (TT t) 5
  near : HNear (TT t) 7
  street : HStreet (TT t) 0 9
  initr : ∀ fam nei : List Str, Ppl 4 8 fam nei → t 9 [.lst ((sD fam).map W.v), .lst ((sD nei).map W.v), .lst [.r 0, .r 1], .ins 0 []] [.r 3, .r 0, .r 1] = .ok (.v .non) [.lst ((sD fam).map W.v), .lst ((sD nei).map W.v), .lst [.r 0, .r 1], .ins 0 [.v (.tup (sD fam)), .v (.tup (sD nei)), .v (.lst ((spL nei).map spotD))], .lst ((sD (fam ++ nei)).map W.v)]
  eqs : ∀ f n f' n' : List Str, RV (t 2 [] [.v (stD 0 f n), .v (stD 0 f' n')]) (.bl (decide (f = f') && decide (n = n')))
  tells : ∀ fam nei : List Str, Ppl 4 8 fam nei → RV (t 17 [] [.v (stD 0 fam nei), .v (.lst (sD fam)), .v (.lst (sD nei))]) (.bl true)
abbrev twoD (fam nei : List Str) : D := .lst [.lst (sD fam), .lst (sD nei)]
theorem l1_spec (h : HL t) (a g v4 s7 : Option W) (fam nei f' n' : List Str) (hp : Ppl 4 8 fam nei) (hp' : Ppl 4 8 f' n') (b : Nat) (S : Sto) (d : W) : lpS (execs (TT t) (cb_law_l1 17)) 7 d [a, some (.v (twoD fam nei)), some (.v (twoD f' n')), g, v4, some (.v (stD 0 fam nei)), some (.v (stD 0 f' n')), s7] S = .nx [a, some (.v (twoD fam nei)), some (.v (twoD f' n')), g, v4, some (.v (stD 0 fam nei)), some (.v (stD 0 f' n')), some d] S := by
  have c1 := RV.c3 (T := TT t) (h.tells fam nei hp) S
  have c2 := RV.c3 (T := TT t) (h.tells f' n' hp') S
  simp only [stD, twoD] at *
  generalize (spL nei).map spotD = SP at *
  generalize (spL n').map spotD = SP' at *
  generalize sD fam = A at *
  generalize sD nei = B at *
  generalize sD f' = A' at *
  generalize sD n' = B' at *
  simp [cb_law_l1, c1, c2]
theorem p1_spec (h : HL t) (a g : Option W) (fam nei f' n' : List Str) (hp : Ppl 4 8 fam nei) (hp' : Ppl 4 8 f' n') (q r : List D) :
    execs (TT t) (cb_law_p1 17 0 9) 0 [a, some (.v (twoD fam nei)), some (.v (twoD f' n')), g, some (.r 2), some (.v (stD 0 fam nei)), some (.v (stD 0 f' n')), none] [.lst (q.map W.v), .lst (r.map W.v), .lst [.r 0, .r 1]] = .rt (.v (.bl true)) [.lst (q.map W.v), .lst (r.reverse.map W.v), .lst [.r 0, .r 1]] := by
  have lp : forW (lpS (execs (TT t) (cb_law_l1 17)) 7) (.v (.tup (rangeD 0 2))) (false, (rangeD 0 2).map W.v) ((rangeD 0 2).map W.v) [a, some (.v (twoD fam nei)), some (.v (twoD f' n')), g, some (.r 2), some (.v (stD 0 fam nei)), some (.v (stD 0 f' n')), none] [.lst (q.map W.v), .lst (r.reverse.map W.v), .lst [.r 0, .r 1]] = .nx [a, some (.v (twoD fam nei)), some (.v (twoD f' n')), g, some (.r 2), some (.v (stD 0 fam nei)), some (.v (stD 0 f' n')), some (.v (.int 1))] [.lst (q.map W.v), .lst (r.reverse.map W.v), .lst [.r 0, .r 1]] :=
    (forW_cons (l1_spec h a g (some (.r 2)) none fam nei f' n' hp hp' 0 _ _) (sqOf_t _ _)).trans ((forW_cons (l1_spec h a g (some (.r 2)) _ fam nei f' n' hp hp' 0 _ _) (sqOf_t _ _)).trans rfl)
  have mk := h.street.call hp (x := .tup (sD fam)) (y := .lst (sD nei)) (.inr rfl) (.inl rfl) [.lst (q.map W.v), .lst (r.reverse.map W.v), .lst [.r 0, .r 1]]
  have fz : frzW 3 (.r 3) [.lst (q.map W.v), .lst (r.reverse.map W.v), .lst [.r 0, .r 1], .ins 0 [.v (.tup (sD fam)), .v (.tup (sD nei)), .v (.lst ((spL nei).map spotD))]] = .ok (.v (stD 0 fam nei)) [.lst (q.map W.v), .lst (r.reverse.map W.v), .lst [.r 0, .r 1]] := frz_new (S := [.lst (q.map W.v), .lst (r.reverse.map W.v), .lst [.r 0, .r 1]]) (by simp) (by simp)
  have fz2 : frzW 3 (.r 3) [.lst (q.map W.v), .lst (r.reverse.map W.v), .lst [.r 0, .r 1], .lst ((sD nei).map W.v)] = .ok (.v (.lst (sD nei))) [.lst (q.map W.v), .lst (r.reverse.map W.v), .lst [.r 0, .r 1]] := frz_new (S := [.lst (q.map W.v), .lst (r.reverse.map W.v), .lst [.r 0, .r 1]]) (by simp) (by simp)
  have q0 := RV.c2 (T := TT t) (h.eqs fam nei fam nei)
  simp only [decide_true, Bool.and_self] at q0
  have q1 := RV.c2 (T := TT t) (h.eqs fam nei f' n')
  have q2 := RV.c2 (T := TT t) (h.eqs f' n' fam nei)
  have r1 := eq_strL (TT t) fam f'
  have r2 := eq_strL (TT t) nei n'
  have rg : rangeD 0 2 = [.int 0, .int 1] := rfl
  have em : (r.map W.v).reverse = r.reverse.map W.v := by simp
  have nb : ∀ (x y : Bool) (S : Sto), cmpW (TT t) .isnot (.v (.bl x)) (.v (.bl y)) S = .ok (.v (.bl (!(y == x)))) S := fun x y S => by
    rw [cmpW_plain _ _ _ _ _ rfl rfl]
    rfl
  rw [rg] at lp
  simp only [stD, twoD, List.map_cons, List.map_nil, List.length_cons, List.length_nil] at *
  by_cases e1 : fam = f'
  · by_cases e2 : nei = n'
    · subst e1 e2
      simp only [decide_true, Bool.and_self] at *
      generalize (spL nei).map spotD = SP at *
      generalize sD fam = A at *
      generalize sD nei = B at *
      generalize hR : r.reverse = R at *
      simp [cb_law_p1, em, rg, lp, mk, fz, fz2, q0, nb, r1, r2, isBl]
    · have e2' : ¬ n' = nei := fun z => e2 z.symm
      subst e1
      simp only [decide_true, e2, e2', decide_false, Bool.and_false, Bool.and_self, Bool.true_and] at *
      generalize (spL nei).map spotD = SP at *
      generalize (spL n').map spotD = SP' at *
      generalize sD fam = A at *
      generalize sD nei = B at *
      generalize sD n' = B' at *
      generalize hR : r.reverse = R at *
      simp [cb_law_p1, em, rg, lp, mk, fz, fz2, q0, q1, q2, nb, r1, r2, isBl]
  · have e1' : ¬ f' = fam := fun z => e1 z.symm
    simp only [e1, e1', decide_false, Bool.false_and] at *
    generalize (spL nei).map spotD = SP at *
    generalize (spL n').map spotD = SP' at *
    generalize sD fam = A at *
    generalize sD f' = A' at *
    generalize sD nei = B at *
    generalize sD n' = B' at *
    generalize hR : r.reverse = R at *
    simp [cb_law_p1, em, rg, lp, mk, fz, fz2, q0, q1, q2, nb, r1, isBl]

theorem mkR (h : HL t) (fam nei : List Str) (hp : Ppl 4 8 fam nei) : (makeW (TT t) 0 9 [.r 0, .r 1] [.lst ((sD fam).map W.v), .lst ((sD nei).map W.v), .lst [.r 0, .r 1]]).bind (frzW 3) = .ok (.v (stD 0 fam nei)) [.lst ((sD fam).map W.v), .lst ((sD nei).map W.v), .lst [.r 0, .r 1]] := by
  have e : makeW (TT t) 0 9 [.r 0, .r 1] [.lst ((sD fam).map W.v), .lst ((sD nei).map W.v), .lst [.r 0, .r 1]] = .ok (.r 3) [.lst ((sD fam).map W.v), .lst ((sD nei).map W.v), .lst [.r 0, .r 1], .ins 0 [.v (.tup (sD fam)), .v (.tup (sD nei)), .v (.lst ((spL nei).map spotD))]] := by
    show mkO 3 (t 9 [.lst ((sD fam).map W.v), .lst ((sD nei).map W.v), .lst [.r 0, .r 1], .ins 0 []] [.r 3, .r 0, .r 1]) = _
    rw [h.initr fam nei hp]
    show opt (cut 4 _) _ = _
    have := cut_app (S := [Cell.lst ((sD fam).map W.v), .lst ((sD nei).map W.v), .lst [.r 0, .r 1], .ins 0 [.v (.tup (sD fam)), .v (.tup (sD nei)), .v (.lst ((spL nei).map spotD))]]) (R := [.lst ((sD (fam ++ nei)).map W.v)]) (by simp)
    rw [show cut 4 [Cell.lst ((sD fam).map W.v), .lst ((sD nei).map W.v), .lst [.r 0, .r 1], .ins 0 [.v (.tup (sD fam)), .v (.tup (sD nei)), .v (.lst ((spL nei).map spotD))], .lst ((sD (fam ++ nei)).map W.v)] = some _ from this]
    rfl
  rw [e, Out.bind_ok]
  exact frz_new (S := [.lst ((sD fam).map W.v), .lst ((sD nei).map W.v), .lst [.r 0, .r 1]]) (by simp) (by simp)
theorem p2_core (a : Option W) (m : W) (g s5 s6 : Option W) (A B q R : List D) (hq : A.map W.v ++ [.v (.str "late")] = q.map W.v) (S' : Sto) (cl : callL (TT t) 13 [.r 2, .v (.lst [.lst A, .lst B])] [.lst (A.map W.v), .lst (B.map W.v), .lst [.r 0, .r 1]] = .ok (.v (.bl true)) [.lst (A.map W.v), .lst (B.map W.v), .lst [.r 0, .r 1]]) (hz : A.length < 16777216) (sx : sixF 0 (.v (.str "late")) (B.map W.v) = some (R.map W.v))
    (fin : execs (TT t) (cb_law_p1 17 0 9) 0 [a, some (.v (.lst [.lst A, .lst B])), some m, g, some (.r 2), s5, s6, none] [.lst (q.map W.v), .lst (R.map W.v), .lst [.r 0, .r 1]] = .rt (.v (.bl true)) S') :
    execs (TT t) (cb_law_p2 13 17 0 9) 0 [a, some (.v (.lst [.lst A, .lst B])), some m, g, some (.r 2), s5, s6, none] [.lst (A.map W.v), .lst (B.map W.v), .lst [.r 0, .r 1]] = .rt (.v (.bl true)) S' := by
  rw [← hq] at fin
  simp [cb_law_p2, cl, hz, sx, fin]
theorem p2_spec (h : HL t) (a g : Option W) (fam nei f' n' : List Str) (hp : Ppl 4 8 fam nei) (hp' : Ppl 4 8 f' n') :
    ∃ S', execs (TT t) (cb_law_p2 13 17 0 9) 0 [a, some (.v (twoD fam nei)), some (.v (twoD f' n')), g, some (.r 2), some (.v (stD 0 fam nei)), some (.v (stD 0 f' n')), none] [.lst ((sD fam).map W.v), .lst ((sD nei).map W.v), .lst [.r 0, .r 1]] = .rt (.v (.bl true)) S' := by
  have f1 := hp.f1; have f2 := hp.f2; have n1 := hp.n1; have n2 := hp.n2
  have cl : callL (TT t) 13 [.r 2, .v (twoD fam nei)] [.lst ((sD fam).map W.v), .lst ((sD nei).map W.v), .lst [.r 0, .r 1]] = .ok (.v (.bl true)) [.lst ((sD fam).map W.v), .lst ((sD nei).map W.v), .lst [.r 0, .r 1]] := by
    refine call_L (ds := [twoD fam nei, twoD fam nei]) ?_ (h.same (twoD fam nei) ?_) rfl
    · rw [lends_cons, lend_two]
      simp
    · simp [sameD, flatD]
      omega
  have hz : (sD fam).length < 16777216 := by simp; omega
  have sx := sixF_int (l := (sD nei).map W.v) (w := .v (.str "late")) (k := 0) (by omega) (by simp; omega)
  have em : ((sD nei).set 0 (.str "late")).map W.v = ((sD nei).map W.v).set 0 (.v (.str "late")) := by rw [List.map_set]
  rw [Int.toNat_zero, ← em] at sx
  exact ⟨_, p2_core a _ g _ _ (sD fam) (sD nei) (sD fam ++ [.str "late"]) ((sD nei).set 0 (.str "late")) (by rw [List.map_append]; rfl) _ cl hz sx (p1_spec h a g fam nei f' n' hp hp' _ _)⟩
theorem p3_spec (h : HL t) (a : Option W) (x : Int) (fam nei f' n' : List Str) (hp : Ppl 4 8 fam nei) (hp' : Ppl 4 8 f' n') :
    ∃ S', execs (TT t) (cb_law_p3 0 9 13 17) 0 [a, some (.v (twoD fam nei)), some (.v (twoD f' n')), some (.v (.lst [.int x])), none, none, none, none] [] = .rt (.v (.bl true)) S' := by
  obtain ⟨S', fin⟩ := p2_spec h a (some (.v (.lst [.int x]))) fam nei f' n' hp hp'
  refine ⟨S', ?_⟩
  have m1 := mkR h fam nei hp
  have m2 := h.street.call hp' (x := .lst (sD f')) (y := .lst (sD n')) (.inl rfl) (.inl rfl) [.lst ((sD fam).map W.v), .lst ((sD nei).map W.v), .lst [.r 0, .r 1]]
  have m3 := h.street.call hp' (x := .tup (sD f')) (y := .tup (sD n')) (.inr rfl) (.inr rfl) [.lst ((sD fam).map W.v), .lst ((sD nei).map W.v), .lst [.r 0, .r 1]]
  simp only [stD, twoD, List.length_cons, List.length_nil] at *
  generalize (spL nei).map spotD = SP at *
  generalize (spL n').map spotD = SP' at *
  generalize sD fam = A at *
  generalize sD nei = B at *
  generalize sD f' = A' at *
  generalize sD n' = B' at *
  have fzi : frzW 3 (.r 3) [.lst (A.map W.v), .lst (B.map W.v), .lst [.r 0, .r 1], .ins 0 [.v (.tup A'), .v (.tup B'), .v (.lst SP')]] = .ok (.v (.ins 0 [.tup A', .tup B', .lst SP'])) [.lst (A.map W.v), .lst (B.map W.v), .lst [.r 0, .r 1]] := frz_new (S := [.lst (A.map W.v), .lst (B.map W.v), .lst [.r 0, .r 1]]) (by simp) (by simp)
  have fza : frzW 3 (.r 3) [.lst (A.map W.v), .lst (B.map W.v), .lst [.r 0, .r 1], .lst (A'.map W.v)] = .ok (.v (.lst A')) [.lst (A.map W.v), .lst (B.map W.v), .lst [.r 0, .r 1]] := frz_new (S := [.lst (A.map W.v), .lst (B.map W.v), .lst [.r 0, .r 1]]) (by simp) (by simp)
  have fzb : frzW 3 (.r 3) [.lst (A.map W.v), .lst (B.map W.v), .lst [.r 0, .r 1], .lst (B'.map W.v)] = .ok (.v (.lst B')) [.lst (A.map W.v), .lst (B.map W.v), .lst [.r 0, .r 1]] := frz_new (S := [.lst (A.map W.v), .lst (B.map W.v), .lst [.r 0, .r 1]]) (by simp) (by simp)
  by_cases e : x = 1
  · simp [cb_law_p3, m1, m2, m3, fzi, fza, fzb, e]
    rw [e] at fin
    exact fin
  · simp [cb_law_p3, m1, m2, m3, fzi, fza, fzb, e, fin]
theorem law_spec (h : HL t) (ns : List Int) : ∃ S', runD (TT t) 8 (cb_law 5 7 4 0 0 9 13 17) [] [.v (.scr ns)] = .ok (.v (.bl true)) S' := by
  have ce := h.cell.lit ns
  obtain ⟨fam, nei, hp, hpc⟩ := h.people ns 4 8 (by decide) (by decide) (by decide) (by decide)
  have hpc := RL.c3 (T := TT t) hpc []
  obtain ⟨f', n', hp', hnc⟩ := h.near.call (cellAt ns 2) 3 fam nei hp
  obtain ⟨got, hg, hcall⟩ := h.draw.call (cellAt ns 3) 4 [2] (.cons (by decide) (by decide) .nil) (by simp)
  obtain ⟨x0, got, rfl, a0, a1, hg⟩ := Drawn_cons hg
  have := Drawn_nil hg
  subst this
  have hcall := hcall []
  obtain ⟨S', fin⟩ := p3_spec h (some (.v (.scr ns))) x0 fam nei f' n' hp hp'
  refine ⟨S', ?_⟩
  have e4 : ((4 : Nat) : Int) = 4 := rfl
  have e8 : ((8 : Nat) : Int) = 8 := rfl
  rw [e4, e8] at hpc
  simp only [twoD, List.map_cons, List.map_nil, List.length_nil, List.nil_append] at *
  generalize sD fam = A at *
  generalize sD nei = B at *
  generalize sD f' = A' at *
  generalize sD n' = B' at *
  simp [runD_def, cb_law, List.replicate, ce, hpc, hnc, hcall, fin]
end Lw

namespace Lw
open PySem L2 NV
noncomputable def tb (n : Nat) : Nat → Sto → List W → Out W := tab src.pg n
theorem at_tab {n j : Nat} {f : Fn} (hj : j < n) (hf : src.pg.fns[j]? = some f) (S : Sto) (ws : List W) (hl : ws.length = f.ps.length) : tb n j S ws = runD (TT (tb j)) f.N.length f.b S ws := tab_at hj hf S ws hl
theorem hDraw {n : Nat} (hn : 0 < n) : HDraw (TT (tb n)) 0 := fun c sa bs hb hl => by
  obtain ⟨l, h1, h2⟩ := draw_spec' (TT (tb 0)) c sa bs hb hl
  exact ⟨l, h1, by show RL (tb n 0 [] _) _; rw [at_tab (f := f0) hn rfl _ _ rfl]; exact h2⟩
theorem hWord {n : Nat} (hn : 1 < n) : HWord (TT (tb n)) 1 := fun x => by
  show RV (tb n 1 [] _) _
  rw [at_tab (f := f1) hn rfl _ _ rfl]
  exact ⟨[], word_spec (TT (tb 1)) x⟩
theorem hNames {n : Nat} (hn : 3 < n) : HNames (TT (tb n)) 3 := fun c sa m hm => by
  obtain ⟨ws, h1, h2, h3, h4⟩ := names_spec (TT (tb 3)) 0 1 (hDraw (by decide)) (hWord (by decide)) c sa m hm
  exact ⟨ws, h1, h2, h3, by show RL (tb n 3 [] _) _; rw [at_tab (f := f3) hn rfl _ _ rfl]; exact h4⟩
theorem hCell {n : Nat} (hn : 4 < n) : HCell (TT (tb n)) 4 := fun ns k => by
  show RV (tb n 4 [] _) _
  rw [at_tab (f := f4) hn rfl _ _ rfl]
  exact cell_spec' (TT (tb 4)) ns k
theorem hPeople {n : Nat} (hn : 5 < n) : HPeople (TT (tb n)) 5 := fun ns mf mn a b c d => by
  obtain ⟨fam, nei, h1, h2⟩ := people_spec (TT (tb 5)) 0 4 3 (hDraw (by decide)) (hCell (by decide)) (hNames (by decide)) ns mf mn a b c d
  exact ⟨fam, nei, h1, by show RL (tb n 5 [] _) _; rw [at_tab (f := f5) hn rfl _ _ rfl]; exact h2⟩
theorem hFresh {n : Nat} (hn : 6 < n) : HFresh (TT (tb n)) 6 := fun x kn hl => by
  obtain ⟨w, h1, h2, h3⟩ := fresh_spec (TT (tb 6)) 1 (hWord (by decide)) x kn hl
  exact ⟨w, h1, h2, by show RV (tb n 6 [] _) _; rw [at_tab (f := f6) hn rfl _ _ rfl]; exact h3⟩
theorem hNear {n : Nat} (hn : 7 < n) : HNear (TT (tb n)) 7 := fun c sa fam nei hp => by
  obtain ⟨f', n', h1, h2⟩ := near_spec (TT (tb 7)) 0 6 (hDraw (by decide)) (hFresh (by decide)) c sa fam nei hp
  exact ⟨f', n', h1, by show RT (tb n 7 [] _) _; rw [at_tab (f := f7) hn rfl _ _ rfl]; exact h2⟩
theorem hIsName {n : Nat} (hn : 8 < n) : HIsName (TT (tb n)) 8 := fun w hw => by
  show RV (tb n 8 [] _) _
  rw [at_tab (f := f8) hn rfl _ _ rfl]
  exact is_name_spec (TT (tb 8)) 1 0 rfl rfl w hw
theorem hStreet {n : Nat} (hn : 9 < n) : HStreet (TT (tb n)) 0 9 := fun fam nei hp x y hx hy => by
  refine ⟨[.ins 0 [.v (.tup (sD fam)), .v (.tup (sD nei)), .v (.lst ((spL nei).map spotD))], .lst ((sD (fam ++ nei)).map W.v)], ?_, ?_⟩
  · show tb n 9 _ _ = _
    rw [at_tab (f := f9) hn rfl _ _ rfl]
    exact init_v (TT (tb 9)) 0 3 4 8 2 (cst _) (gst _) (hIsName (by decide)) fam nei hp x y hx hy
  · rfl
theorem hSame0 {n : Nat} (hn : 10 < n) : HSame (TT (tb n)) 10 0 := fun x h => by
  show RV (tb n 10 [] _) _
  rw [at_tab (f := f10) hn rfl _ _ rfl]
  exact same_base (TT (tb 10)) 10 h
theorem hSame1 {n : Nat} (hn : 11 < n) : HSame (TT (tb n)) 11 1 := fun x h => by
  show RV (tb n 11 [] _) _
  rw [at_tab (f := f11) hn rfl _ _ rfl]
  exact same_step (TT (tb 11)) 10 0 (hSame0 (by decide)) h
theorem hSame2 {n : Nat} (hn : 12 < n) : HSame (TT (tb n)) 12 2 := fun x h => by
  show RV (tb n 12 [] _) _
  rw [at_tab (f := f12) hn rfl _ _ rfl]
  exact same_step (TT (tb 12)) 11 1 (hSame1 (by decide)) h
theorem hSame3 {n : Nat} (hn : 13 < n) : HSame (TT (tb n)) 13 3 := fun x h => by
  show RV (tb n 13 [] _) _
  rw [at_tab (f := f13) hn rfl _ _ rfl]
  exact same_step (TT (tb 13)) 12 2 (hSame2 (by decide)) h
theorem hT {n : Nat} (hn : 16 < n) : HT (tb n) where
  same := hSame3 (by omega)
  spots f m := by rw [at_tab (f := f14) (by omega) rfl _ _ rfl]; exact spots_spec' (tb 14) f m
  fam f m := by rw [at_tab (f := f15) (by omega) rfl _ _ rfl]; exact fam_spec (tb 15) f m
  nei f m := by rw [at_tab (f := f16) (by omega) rfl _ _ rfl]; exact nei_spec (tb 16) f m
theorem hL : HL (tb 18) where
  toHT := hT (by decide)
  cell := hCell (by decide)
  draw := hDraw (by decide)
  people := hPeople (by decide)
  near := hNear (by decide)
  street := hStreet (by decide)
  initr fam nei hp := by rw [at_tab (f := f9) (by decide) rfl _ _ rfl]; exact init_r (tb 9) (hIsName (by decide)) fam nei hp
  eqs f n f' n' := by rw [at_tab (f := f2) (by decide) rfl _ _ rfl]; exact eq_spec (tb 2) f n f' n'
  tells fam nei hp := by rw [at_tab (f := f17) (by decide) rfl _ _ rfl]; exact tells_spec (hT (by decide)) fam nei hp
theorem law_true (ns : List Int) (hl : ns.length ≤ 63) : ∃ S', step src.pg 18 (tab src.pg 18) [] [.v (.scr ns)] = .ok (.v (.bl true)) S' := by
  obtain ⟨S', h⟩ := law_spec hL ns
  refine ⟨S', ?_⟩
  rw [step_at (f := f18) rfl _ _ _ rfl]
  exact h
end Lw

open PySem PySem.W PySem.Calls PyProof.Rows
set_option maxRecDepth 100000 in
set_option maxHeartbeats 0 in
theorem PySem.Challenge.cw_neighbourkeys_k03_street_keeps_its_names_holds : PySem.Challenge.rw_neighbourkeys_k03_street_keeps_its_names.Holds := by
  w_on; o_law
  refine HandSHeadRun.head_any (r := OpenLaw.row PySem.Challenge.rw_neighbourkeys_k03_street_keeps_its_names) (q := view (OpenLaw.row PySem.Challenge.rw_neighbourkeys_k03_street_keeps_its_names).prog [28]) (H := Lw.hk) (ob := Lw.ob) (M := 40000) (loose := Lw.loose) (d := HandSHeadRun.topDef (OpenLaw.row PySem.Challenge.rw_neighbourkeys_k03_street_keeps_its_names).prog 28) (kwd := []) Lw.ob_eq
    (by kernel_rfl) (fun s => by kernel_rfl) Lw.run (by kernel_rfl) (by kernel_rfl) (by kernel_rfl) (by rfl) (by first | assumption | decide +kernel) (by decide +kernel) ⟨rfl, rfl, rfl, rfl, rfl, by decide +kernel⟩ ?hw ?hc
  case hw => w_witness2
  case hc =>
    refine L2.walk_ofE (l := PySem.Challenge.rw_neighbourkeys_k03_street_keeps_its_names) (n := 63) (k := 38) (x := "_law_script") (CX := L2.CX0) rfl (by decide) (by kernel_rfl) ⟨rfl, by decide, by decide⟩ ?F (fun _ _ _ _ z => z)
    intro w mg fa h Y G hmg0
    obtain ⟨K, KX, c⟩ := Y
    have hmg : mg ("law" : PySem.Str) = some (.ref fa) := by
      have e : (HandSHeadRun.topDef (OpenLaw.row PySem.Challenge.rw_neighbourkeys_k03_street_keeps_its_names).prog 28).name = ("law" : PySem.Str) := by kernel_rfl
      rw [← e]
      exact hmg0
    have hP := Lw.pgh KX G c
    obtain ⟨fd, hA⟩ := Lw.hat c 18 Lw.f18 rfl
    have ea : Lw.f18.at_ K = fa := by
      obtain ⟨f, h1, h2⟩ := hP.fn 18 "law" rfl
      cases h1
      have := h2.symm.trans hmg
      cases this
      rfl
    subst ea
    refine ⟨K, fd, NV.noE (NV.spF ⟨K, Lw.src.ca K, Lw.src.pg.ci⟩ 1 (NV.step Lw.src.pg 18 (NV.tab Lw.src.pg 18))), KX, ?hb, fun H a ns hl _ hS => NV.law_sp (k := ⟨K, Lw.src.ca K, Lw.src.pg.ci⟩) Lw.law_true H a ns hl hS, fun base _ _ => NV.FnOk.quiet (NV.prog_ok hP 18 Lw.f18 rfl fd hA)⟩
    intro s u
    have b := L2.FunD.bindsA (ps := ["_law_script"]) hA.1 fun _ _ _ _ _ _ us hl => match us, hl with | [_], _ => rfl
    exact b s [u] rfl

