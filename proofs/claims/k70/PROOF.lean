import PyProof.Rows.All
import Wide.All
import OpenK.AllK
import Wide.FinOn
import HandS.Base
import HandS.Call
import HandS.List
import KE.DataEq
import KE.SortData
import PyProof.ReprReads
import HandS.Comp
import HandS.Exc
import HandS.TryOnly
import HandS.Words
import HandS.TupAny
import HandS.TupMul
import HandS.Flow
import HandS.Dict
import HandS.IsInst
import HandS.Conv
import HandS.Walk
import HandS.WordsExc
import HandS.Style
import KE.KTryMore
import HandS.ExcInit
import HandS.ExcOwn
import KE.KExcInit
import PyProof.ExcBaseAll.LookupError
import KE.KExcIs
import HandS.ExcField
import HandS.Iter
import KE.GoesEnum
import HandS.Small
import KE.KOwnCellsLaws
import HandS.Ends
import HandS.ForMost
import PySem.Challenge.RW_matchwebs_k70_errors_and_constants
set_option Elab.async false
section
set_option Elab.async false
set_option autoImplicit false
/-! MW1: pure data, results, the small language and its evaluator. -/
namespace MW
open PySem L2

/-- Python data, by value; own objects; caught errors; cells (things that are changed, by number) -/
inductive D where
  | non | bl (b : Bool) | int (i : Int) | str (x : Str)
  | tup (l : List D) | lst (l : List D) | dic (l : List (D × D))
  | obj (c : Nat) (l : List D) | exn (c : Nat) (d : D) | cell (n : Nat)
  /-- the law's script: it is walked, its length is asked for -/
  | scr (l : List Int)
  deriving Inhabited

namespace D
mutual
def toPy : D → PyData
  | .non => .none
  | .bl b => .bool b
  | .int i => .int i
  | .str x => .str x
  | .tup l => .tuple (toPys l)
  | .lst l => .list (toPys l)
  | .dic l => .dict (toPyKv l)
  | .obj _ _ => .none
  | .exn _ _ => .none
  | .cell _ => .none
  | .scr _ => .none
def toPys : List D → List PyData
  | [] => []
  | d :: l => toPy d :: toPys l
def toPyKv : List (D × D) → List (PyData × PyData)
  | [] => []
  | (k, v) :: l => (toPy k, toPy v) :: toPyKv l
end
mutual
/-- no dicts, objects, errors, cells within -/
def plain : D → Bool
  | .non => true
  | .bl _ => true
  | .int _ => true
  | .str _ => true
  | .tup l => plains l
  | .lst l => plains l
  | .dic _ => false
  | .obj _ _ => false
  | .exn _ _ => false
  | .cell _ => false
  | .scr _ => false
def plains : List D → Bool
  | [] => true
  | d :: l => plain d && plains l
end
mutual
/-- what reads as data: as plain, and empty dicts -/
def rd : D → Bool
  | .non => true
  | .bl _ => true
  | .int _ => true
  | .str _ => true
  | .tup l => rds l
  | .lst l => rds l
  | .dic l => l.isEmpty
  | .obj _ _ => false
  | .exn _ _ => false
  | .cell _ => false
  | .scr _ => false
def rds : List D → Bool
  | [] => true
  | d :: l => rd d && rds l
end
mutual
theorem rd_of_plain : ∀ d : D, d.plain = true → d.rd = true
  | .non, _ => rfl
  | .bl _, _ => rfl
  | .int _, _ => rfl
  | .str _, _ => rfl
  | .tup l, h => by simp only [rd]; exact rds_of_plain l (by simpa only [plain] using h)
  | .lst l, h => by simp only [rd]; exact rds_of_plain l (by simpa only [plain] using h)
  | .dic _, h => by simp [plain] at h
  | .obj _ _, h => by simp [plain] at h
  | .exn _ _, h => by simp [plain] at h
  | .cell _, h => by simp [plain] at h
  | .scr _, h => by simp [plain] at h
theorem rds_of_plain : ∀ l : List D, plains l = true → rds l = true
  | [], _ => rfl
  | d :: l, h => by
    have h' : d.plain = true ∧ plains l = true := by simpa [plains] using h
    simp [rds, rd_of_plain d h'.1, rds_of_plain l h'.2]
end
mutual
theorem py_plain : ∀ d : D, d.plain = true → d.toPy.plain = true
  | .non, _ => rfl
  | .bl _, _ => rfl
  | .int _, _ => rfl
  | .str _, _ => rfl
  | .tup l, h => by simp only [toPy, PyData.plain]; exact py_plains l (by simpa only [plain] using h)
  | .lst l, h => by simp only [toPy, PyData.plain]; exact py_plains l (by simpa only [plain] using h)
  | .dic _, h => by simp [plain] at h
  | .obj _ _, h => by simp [plain] at h
  | .exn _ _, h => by simp [plain] at h
  | .cell _, h => by simp [plain] at h
  | .scr _, h => by simp [plain] at h
theorem py_plains : ∀ l : List D, plains l = true → PyData.plainAll (toPys l) = true
  | [], _ => rfl
  | d :: l, h => by
    have h' : d.plain = true ∧ plains l = true := by simpa [plains] using h
    simp [toPys, PyData.plainAll, py_plain d h'.1, py_plains l h'.2]
end
/-- repr, where it is told -/
def repr (d : D) : Option Str := if d.rd && d.toPy.showable && decide (d.toPy.shown.length ≤ sizeLine) && decide (d.toPy.depth ≤ 60) then some d.toPy.shown else none
end D

/-- the draw -/
structure Draw where
  mixed : Int
  great : List Int
  turn : Int
  deriving Inhabited
/-- what is changed: the draw (its dict: cell 1, its list: cell 2) -/
structure Wd where
  draw : Option Draw
  deriving Inhabited

/-- a result: a value; an error of the class c with its datum; nothing told -/
inductive Rs (α : Type) where
  | ok (a : α) (w : Wd)
  | exc (c : Nat) (d : D) (w : Wd)
  | bad
  deriving Inhabited
abbrev M (α : Type) := Wd → Rs α
namespace M
def pure {α : Type} (a : α) : M α := fun w => .ok a w
def bind {α β : Type} (m : M α) (f : α → M β) : M β := fun w => match m w with
  | .ok a w' => f a w'
  | .exc c d w' => .exc c d w'
  | .bad => .bad
def bad {α : Type} : M α := fun _ => .bad
def raise {α : Type} (c : Nat) (d : D) : M α := fun w => .exc c d w
def opt {α : Type} : Option α → M α
  | some a => M.pure a
  | none => M.bad
end M
instance : Monad M where
  pure := M.pure
  bind := M.bind

/-! ### operators -/
def fits (n : Nat) : Bool := decide (n ≤ sizeLine)
def small63 (i : Int) : Bool := decide (-(2 ^ 63) ≤ i) && decide (i < 2 ^ 63)

inductive BOp where | add | sub | mul | fdiv | mod | pow
  deriving DecidableEq
inductive COp where | eq | ne | lt | le | gt | ge | isin | notin
  deriving DecidableEq

namespace D
def add : D → D → Option D
  | .int i, .int j => some (.int (i + j))
  | .str x, .str y => if fits (x.length + y.length) then some (.str (x ++ y)) else none
  | .tup x, .tup y => if fits (x.length + y.length) then some (.tup (x ++ y)) else none
  | .lst x, .lst y => if fits (x.length + y.length) then some (.lst (x ++ y)) else none
  | _, _ => none
def sub : D → D → Option D
  | .int i, .int j => some (.int (i - j))
  | _, _ => none
def mulOk (i j : Int) : Bool := (decide (-(2 ^ 64) < i) && decide (i < 2 ^ 64)) || (decide (-(2 ^ 64) < j) && decide (j < 2 ^ 64))
def mul : D → D → Option D
  | .int i, .int j => if mulOk i j then some (.int (i * j)) else none
  | .lst x, .int k => if small63 k && fits (x.length * k.toNat) then some (.lst (List.replicate k.toNat x).flatten) else none
  | .tup x, .int k => if !x.isEmpty && decide (2 ≤ k) && decide (k ≤ 1000) && decide (x.length ≤ 1000) then some (.tup (List.replicate k.toNat x).flatten) else none
  | _, _ => none
def fdiv : D → D → Option D
  | .int i, .int j => if decide (0 < j) && decide (j < 1073741824) then some (.int (i / j)) else none
  | _, _ => none
def mod : D → D → Option D
  | .int i, .int j => if decide (0 < j) then some (.int (i % j)) else none
  | _, _ => none
def pow : D → D → Option D
  | .int i, .int j => if decide (0 ≤ j) && decide (j ≤ 1000000) && decide (i.natAbs < 2 ^ 64) then some (.int (i ^ j.toNat)) else none
  | _, _ => none
def bop : BOp → D → D → Option D
  | .add => add | .sub => sub | .mul => mul | .fdiv => fdiv | .mod => mod | .pow => pow

/-- == where it is told -/
def eqv : D → D → Option Bool
  | .tup x, .tup [] => some x.isEmpty
  | .lst x, .lst [] => some x.isEmpty
  | a, b => if a.plain && b.plain && decide (a.toPy.depth ≤ 60) && decide (b.toPy.depth ≤ 60) then some (PyData.eqv a.toPy b.toPy) else none
def isin : D → D → Option Bool
  | .str x, .str y => some (!(Builtin.Str.occurrences y x 0 y.length 1).isEmpty)
  | a, .lst l => if a.plain && plains l && decide (a.toPy.depth ≤ 60) && decide (PyData.depthAll (toPys l) ≤ 60) then some ((toPys l).any fun y => PyData.eqv y a.toPy) else none
  | a, .tup l => if a.plain && plains l && decide (a.toPy.depth ≤ 60) && decide (PyData.depthAll (toPys l) ≤ 60) then some ((toPys l).any fun y => PyData.eqv y a.toPy) else none
  | _, _ => none
def lt : D → D → Option Bool
  | .int i, .int j => some (decide (i < j))
  | _, _ => none
def le : D → D → Option Bool
  | .int i, .int j => some (decide (i ≤ j))
  | _, _ => none
def gt : D → D → Option Bool
  | .int i, .int j => some (decide (j < i))
  | _, _ => none
def ge : D → D → Option Bool
  | .int i, .int j => some (decide (j ≤ i))
  | _, _ => none
def cop : COp → D → D → Option Bool
  | .eq => eqv
  | .ne => fun a b => (eqv a b).map (!·)
  | .lt => lt
  | .le => le
  | .gt => gt
  | .ge => ge
  | .isin => isin
  | .notin => fun a b => (isin a b).map (!·)

/-- truth -/
def truth : D → Option Bool
  | .bl b => some b
  | .non => some false
  | .int i => some (i != 0)
  | .tup l => some !l.isEmpty
  | .lst l => some !l.isEmpty
  | _ => none

def ix : D → D → Option D
  | .lst l, .int i => atI l i
  | .tup l, .int i => atI l i
  | .str x, .int i => if fits x.length then (atI x.cps.toList i).map fun c => .str ⟨#[c]⟩ else none
  | _, _ => none
/-- the items of l[lo:hi] -/
def cut (l : List D) (lo hi : Option Int) : List D := (l.drop (HT.sIx l.length 0 lo)).take (HT.sIx l.length l.length hi - HT.sIx l.length 0 lo)
def slice (a : D) (l h : Option Int) : Option D :=
  match a with
  | .lst xs => some (.lst (cut xs l h))
  | .tup xs => some (.tup (cut xs l h))
  | _ => none
def asInt : D → Option (Option Int)
  | .int i => some (some i)
  | _ => none
def rev : D → Option D
  | .lst l => some (.lst l.reverse)
  | .tup l => some (.tup l.reverse)
  | _ => none
def neg : D → Option D
  | .int i => some (.int (-i))
  | _ => none
end D
end MW
end
section
set_option Elab.async false
set_option autoImplicit false
set_option maxRecDepth 100000
/-! MW2: a value stands for data, in a part of the abstract heap that is never changed again. -/
namespace MW
open PySem PySem.Spec PyProof.Rows L2

/-- what the program's own classes are: frozen objects (address, the attributes in order), errors (address, the one attribute) -/
structure Pm where
  K : PySem.W.Frag
  cls : Nat → Option (Addr × List Str)
  exc : Nat → Option (Addr × Option Str)

/-- an error object of the class at C, its own dict at dx -/
def ExA (C : Addr) (dx : Option Addr) (a : Addr) : HO := .ext fun h => ∃ (oe : Obj) (vs : Array Value), h.get? a = some oe ∧ Zc (.ref C) dx oe ∧ oe.data = .fields vs

mutual
/-- the value stands for the datum; what it leads to stands in G -/
inductive Rp (P : Pm) (G : Hp) (am : Nat → Option Addr) : V → D → Prop
  | non : Rp P G am .non .non
  | bl (b : Bool) : Rp P G am (.bl b) (.bl b)
  | int (i : Int) : Rp P G am (.int i) (.int i)
  | str (x : Str) : Rp P G am (.str x) (.str x)
  | tup {a : Addr} {vs : List V} {ds : List D} : SqT P.K G a vs → Rps P G am vs ds → Rp P G am (.ref a) (.tup ds)
  | lst {a : Addr} {vs : List V} {ds : List D} : G a = some (.lst vs) → Rps P G am vs ds → Rp P G am (.ref a) (.lst ds)
  | dic0 {a : Addr} : G a = some (.dK []) → Rp P G am (.ref a) (.dic [])
  | obj {a C dx : Addr} {c : Nat} {ns : List Str} {fs : List (Str × V)} {ds : List D} : P.cls c = some (C, ns) → G a = some (.ins C dx fs) → fs.map (·.1) = ns → Rps P G am (fs.map (·.2)) ds → Rp P G am (.ref a) (.obj c ds)
  | exn {a C dx : Addr} {c : Nat} {n : Str} {v : V} {d : D} : P.exc c = some (C, some n) → G a = some (ExA C (some dx) a) → G dx = some (.xd [(n, v)]) → Rp P G am v d → Rp P G am (.ref a) (.exn c d)
  | exn0 {a C : Addr} {c : Nat} : P.exc c = some (C, none) → G a = some (ExA C none a) → Rp P G am (.ref a) (.exn c .non)
  | cell {a : Addr} {n : Nat} : am n = some a → Rp P G am (.ref a) (.cell n)
  | scr {a : Addr} {l : List Int} : SqL P.K G a (l.map V.int) → Rp P G am (.ref a) (.scr l)
inductive Rps (P : Pm) (G : Hp) (am : Nat → Option Addr) : List V → List D → Prop
  | nil : Rps P G am [] []
  | cons {v : V} {vs : List V} {d : D} {ds : List D} : Rp P G am v d → Rps P G am vs ds → Rps P G am (v :: vs) (d :: ds)
end

section
variable {P : Pm} {G G' : Hp} {am am' : Nat → Option Addr}
theorem SqT.mono {K : PySem.W.Frag} {a : Addr} {xs : List V} (k : Same G G') (h : SqT K G a xs) : SqT K G' a xs := by
  rcases h with (h | ⟨o, h⟩) | h
  · exact .inl (.inl (k _ _ h))
  · exact .inl (.inr ⟨o, k _ _ h⟩)
  · exact .inr h
theorem SqL.mono {K : PySem.W.Frag} {a : Addr} {xs : List V} (k : Same G G') (h : SqL K G a xs) : SqL K G' a xs := by
  rcases h with (h | ⟨o, h⟩) | h
  · exact .inl (.inl (k _ _ h))
  · exact .inl (.inr ⟨o, k _ _ h⟩)
  · exact .inr h
mutual
theorem Rp.mono (k : Same G G') (ka : ∀ n a, am n = some a → am' n = some a) : ∀ {v : V} {d : D}, Rp P G am v d → Rp P G' am' v d
  | _, _, .non => .non
  | _, _, .bl b => .bl b
  | _, _, .int i => .int i
  | _, _, .str x => .str x
  | _, _, .tup h r => .tup (SqT.mono k h) (Rps.mono k ka r)
  | _, _, .lst h r => .lst (k _ _ h) (Rps.mono k ka r)
  | _, _, .dic0 h => .dic0 (k _ _ h)
  | _, _, .obj c h e r => .obj c (k _ _ h) e (Rps.mono k ka r)
  | _, _, .exn c h e r => .exn c (k _ _ h) (k _ _ e) (Rp.mono k ka r)
  | _, _, .exn0 c h => .exn0 c (k _ _ h)
  | _, _, .cell h => .cell (ka _ _ h)
  | _, _, .scr h => .scr (SqL.mono k h)
theorem Rps.mono (k : Same G G') (ka : ∀ n a, am n = some a → am' n = some a) : ∀ {vs : List V} {ds : List D}, Rps P G am vs ds → Rps P G' am' vs ds
  | _, _, .nil => .nil
  | _, _, .cons h r => .cons (Rp.mono k ka h) (Rps.mono k ka r)
end
theorem Rps.length : ∀ {vs : List V} {ds : List D}, Rps P G am vs ds → vs.length = ds.length
  | _, _, .nil => rfl
  | _, _, .cons _ r => congrArg (· + 1) (Rps.length r)
theorem Rps.get : ∀ {vs : List V} {ds : List D}, Rps P G am vs ds → ∀ {i : Nat} {d : D}, ds[i]? = some d → ∃ v, vs[i]? = some v ∧ Rp P G am v d
  | _, _, .nil, _, _, e => by simp at e
  | _, _, .cons h _, 0, _, e => by simp at e; subst e; exact ⟨_, rfl, h⟩
  | _, _, .cons _ r, i + 1, d, e => by
    obtain ⟨v, h1, h2⟩ := Rps.get r (i := i) (d := d) (by simpa using e)
    exact ⟨v, by simpa using h1, h2⟩
theorem Rps.get' : ∀ {vs : List V} {ds : List D}, Rps P G am vs ds → ∀ {i : Nat} {v : V}, vs[i]? = some v → ∃ d, ds[i]? = some d ∧ Rp P G am v d
  | _, _, .nil, _, _, e => by simp at e
  | _, _, .cons h _, 0, _, e => by simp at e; subst e; exact ⟨_, rfl, h⟩
  | _, _, .cons _ r, i + 1, v, e => by
    obtain ⟨d, h1, h2⟩ := Rps.get' r (i := i) (v := v) (by simpa using e)
    exact ⟨d, by simpa using h1, h2⟩
theorem Rps.append : ∀ {vs : List V} {ds : List D} {ws : List V} {es : List D}, Rps P G am vs ds → Rps P G am ws es → Rps P G am (vs ++ ws) (ds ++ es)
  | _, _, _, _, .nil, s => s
  | _, _, _, _, .cons h r, s => .cons h (Rps.append r s)
theorem Rps.take : ∀ {vs : List V} {ds : List D} (n : Nat), Rps P G am vs ds → Rps P G am (vs.take n) (ds.take n)
  | _, _, 0, _ => .nil
  | _, _, _ + 1, .nil => .nil
  | _, _, n + 1, .cons h r => .cons h (Rps.take n r)
theorem Rps.drop : ∀ {vs : List V} {ds : List D} (n : Nat), Rps P G am vs ds → Rps P G am (vs.drop n) (ds.drop n)
  | _, _, 0, r => r
  | _, _, _ + 1, .nil => .nil
  | _, _, n + 1, .cons _ r => Rps.drop n r
theorem Rps.reverse {vs : List V} {ds : List D} (h : Rps P G am vs ds) : Rps P G am vs.reverse ds.reverse := by
  induction h using Rps.rec (motive_1 := fun _ _ _ => True) with
  | nil => exact .nil
  | cons h r _ ih => rw [List.reverse_cons, List.reverse_cons]; exact Rps.append ih (.cons h .nil)
  | _ => trivial
theorem Rps.set : ∀ {vs : List V} {ds : List D} {v : V} {d : D} (i : Nat), Rps P G am vs ds → Rp P G am v d → Rps P G am (vs.set i v) (ds.set i d)
  | _, _, _, _, _, .nil, _ => .nil
  | _, _, _, _, 0, .cons _ r, h => .cons h r
  | _, _, _, _, i + 1, .cons q r, h => .cons q (Rps.set i r h)
theorem Rps.flatten {vs : List V} {ds : List D} (h : Rps P G am vs ds) : ∀ n : Nat, Rps P G am (List.replicate n vs).flatten (List.replicate n ds).flatten
  | 0 => by simp; exact .nil
  | n + 1 => by
    rw [List.replicate_succ, List.replicate_succ, List.flatten_cons, List.flatten_cons]
    exact Rps.append h (Rps.flatten h n)
end

/-- the ghost: what is never changed, what belongs to the cells, where the cells are, their states -/
structure Gh where
  G : Hp
  R : Hp
  am : Nat → Option Addr
  w : Wd

/-- where the draw is: its dict at cell 1, its list at cell 2 -/
def WRel (_K : PySem.W.Frag) (w : Wd) (am : Nat → Option Addr) (R : Hp) : Prop :=
  match w.draw with
  | none => am 1 = none ∧ am 2 = none
  | some d => ∃ a l, a ≠ l ∧ am 1 = some a ∧ am 2 = some l ∧ R a = some (.dK [(Sum.inr "mixed", .int d.mixed), (Sum.inr "great", .ref l), (Sum.inr "turn", .int d.turn)]) ∧ R l = some (.lst (d.great.map V.int))

structure Lay (P : Pm) (g : Gh) (H : Hp) : Prop where
  gh : Same g.G H
  rh : Same g.R H
  dj : ∀ a o, g.G a = some o → g.R a = none
  wr : WRel P.K g.w g.am g.R

/-- from there to here nothing but cells was changed, and new objects laid -/
structure Ext (g : Gh) (H : Hp) (g' : Gh) (H' : Hp) : Prop where
  keep : ∀ a o, H a = some o → g.R a = none → H' a = some o
  gg : Same g.G g'.G
  gn : ∀ a o, g'.G a = some o → g.G a = some o ∨ H a = none
  rn : ∀ a o, g'.R a = some o → g.R a ≠ none ∨ H a = none
  am : ∀ n a, g.am n = some a → g'.am n = some a
  th : ∀ a o, H a = some o → H' a ≠ none
theorem Ext.refl (g : Gh) (H : Hp) : Ext g H g H := ⟨fun _ _ e _ => e, fun _ _ e => e, fun _ _ e => .inl e, fun _ _ e => .inl (by rw [e]; simp), fun _ _ e => e, fun _ _ e => by rw [e]; simp⟩
theorem Ext.rnone {g g' : Gh} {H H' : Hp} (x : Ext g H g' H') {a : Addr} {o : HO} (h : H a = some o) (n : g.R a = none) : g'.R a = none := by
  cases q : g'.R a with
  | none => rfl
  | some u =>
    rcases x.rn a u q with z | z
    · exact absurd n z
    · rw [h] at z; cases z
theorem Ext.trans {g g1 g2 : Gh} {H H1 H2 : Hp} (x : Ext g H g1 H1) (y : Ext g1 H1 g2 H2) : Ext g H g2 H2 where
  keep := fun a o e n => y.keep a o (x.keep a o e n) (x.rnone e n)
  gg := fun a o e => y.gg a o (x.gg a o e)
  gn := fun a o e => by
    rcases y.gn a o e with z | z
    · exact x.gn a o z
    · cases q : H a with
      | none => exact .inr rfl
      | some u => exact absurd z (x.th a u q)
  rn := fun a o e => by
    rcases y.rn a o e with z | z
    · cases q : g1.R a with
      | none => exact absurd q z
      | some u => exact x.rn a u q
    · cases q : H a with
      | none => exact .inr rfl
      | some u =>
        by_cases n : g.R a = none
        · rw [x.keep a u q n] at z; cases z
        · exact .inl n
  am := fun n a e => y.am n a (x.am n a e)
  th := fun a o e => by
    cases q : H1 a with
    | none => exact absurd q (x.th a o e)
    | some u => exact y.th a u q

/-! ### reading off the machine's heap -/
section
variable {P : Pm} {X : Cx} {pins : List (Addr × Obj)} {σ : L2.St} {H G : Hp} {am : Nat → Option Addr} {s : Shared}
mutual
/-- what is shown reads as its data; all lists and dicts of it are tracked -/
theorem Rp.reads (I : Inv X pins σ H s) (hK : X.K = P.K) (k : Same G H) : ∀ (d : D) (v : V) (u : Value), Rp P G am v d → RelV v u → d.rd = true → ∃ as, Reads s.heap u d.toPy as ∧ ∀ b ∈ as, H b ≠ none
  | .non, _, _, h, r, _ => by
    cases h
    cases r
    exact ⟨_, .none, by simp⟩
  | .bl b, _, _, h, r, _ => by
    cases h
    cases r
    exact ⟨_, .bool b, by simp⟩
  | .int i, _, _, h, r, _ => by
    cases h
    obtain ⟨t, rfl⟩ := r
    exact ⟨_, .int i t, by simp⟩
  | .str x, _, _, h, r, _ => by
    cases h
    obtain ⟨t, rfl⟩ := r
    exact ⟨_, .str x t, by simp⟩
  | .tup ds, _, _, h, r, sh => by
    cases h with
    | tup hs ha =>
      cases r
      obtain ⟨its, rv, ⟨o, ho, hc, n, hd⟩, _⟩ := I.tuple (hK ▸ SqT.mono k hs)
      obtain ⟨as, hr, hn⟩ := Rps.reads I hK k ds _ its ha rv (by simpa only [D.rd] using sh)
      exact ⟨_, .tuple ho hc hd hr, hn⟩
  | .lst ds, _, _, h, r, sh => by
    cases h with
    | lst hs ha =>
      cases r
      obtain ⟨its, rv, ⟨o, n, ho, hc, _, hd⟩, _⟩ := I.list (SqL.of (k _ _ hs))
      obtain ⟨as, hr, hn⟩ := Rps.reads I hK k ds _ its ha rv (by simpa only [D.rd] using sh)
      refine ⟨_, .list ho hc hd hr, fun b z => ?_⟩
      rcases List.mem_cons.mp z with rfl | z
      · rw [k _ _ hs]; simp
      · exact hn b z
  | .dic l, _, _, h, r, sh => by
    cases h with
    | @dic0 a hs =>
      cases r
      obtain ⟨_, hm, vs, rel, o, es, ep, ho, hx, hd, _, hp, _⟩ : (0 ≤ sizeLine) ∧ (_ == sysModules) = false ∧ ∃ vs, KV ([] : List (Key × V)) vs ∧ s.heap.DictOf (mixKind X.prog X.w) _ vs := I.hok _ _ (k _ _ hs)
      cases rel
      cases hp' : es.toList with
      | cons e l => rw [hp'] at hp; cases hp
      | nil =>
        refine ⟨_, .dict (as := []) (bs := []) ho hx.1 hd ?_ ?_, ?_⟩
        · rw [hp']; exact .nil
        · rw [hp']; exact .nil
        · intro b hb
          have e : b = a := by simpa using hb
          rw [e, k _ _ hs]; simp
  | .obj _ _, _, _, _, _, sh => by simp [D.rd] at sh
  | .exn _ _, _, _, _, _, sh => by simp [D.rd] at sh
  | .cell _, _, _, _, _, sh => by simp [D.rd] at sh
  | .scr _, _, _, _, _, sh => by simp [D.rd] at sh
theorem Rps.reads (I : Inv X pins σ H s) (hK : X.K = P.K) (k : Same G H) : ∀ (ds : List D) (vs : List V) (us : List Value), Rps P G am vs ds → Vals vs us → D.rds ds = true → ∃ as, ReadsAll s.heap us (D.toPys ds) as ∧ ∀ b ∈ as, H b ≠ none
  | [], _, _, h, r, _ => by
    cases h
    cases r
    exact ⟨_, .nil, by simp⟩
  | d :: ds, _, _, h, r, sh => by
    have sh' : d.rd = true ∧ D.rds ds = true := by simpa [D.rds] using sh
    cases h with
    | cons h1 h2 =>
      cases r with
      | cons r1 r2 =>
        obtain ⟨as, q1, n1⟩ := Rp.reads I hK k d _ _ h1 r1 sh'.1
        obtain ⟨bs, q2, n2⟩ := Rps.reads I hK k ds _ _ h2 r2 sh'.2
        exact ⟨_, .cons q1 q2, fun b z => (List.mem_append.mp z).elim (n1 b) (n2 b)⟩
end
end
end MW
end
section
set_option Elab.async false
set_option autoImplicit false
set_option maxRecDepth 100000
/-! MW3: the state of a body beside the evaluator's; what an expression's value is. -/
namespace MW
open PySem PySem.Spec PyProof.Rows L2

abbrev En := List (Option D)
abbrev Fls := List Bool

/-- at a slot that is one's own: a list that nobody else knows, or no list -/
def Own (P : Pm) (g : Gh) (H : Hp) (v : V) : D → Prop
  | .lst ds => ∃ (a : Addr) (vs : List V), v = .ref a ∧ H a = some (.lst vs) ∧ g.G a = none ∧ g.R a = none ∧ Rps P g.G g.am vs ds
  | d => Rp P g.G g.am v d

structure SRel (P : Pm) (g0 : Gh) (H0 : Hp) (fl : Fls) (g : Gh) (H : Hp) (σ : L2.St) (ρ : En) : Prop where
  lay : Lay P g H
  ext : Ext g0 H0 g H
  len : σ.length = ρ.length
  fro : ∀ (i : Nat) (d : D), ρ[i]? = some (some d) → fl[i]? ≠ some true → ∃ v, σ[i]? = some (some v) ∧ Rp P g.G g.am v d
  own : ∀ (i : Nat) (d : D), ρ[i]? = some (some d) → fl[i]? = some true → ∃ v, σ[i]? = some (some v) ∧ Own P g H v d ∧ ∀ l a, d = .lst l → v = .ref a → H0 a = none
  sep : ∀ (i j : Nat) (l m : List D) (v : V), i ≠ j → ρ[i]? = some (some (.lst l)) → ρ[j]? = some (some (.lst m)) → fl[i]? = some true → fl[j]? = some true → σ[i]? = some (some v) → σ[j]? = some (some v) → False

/-- F: frozen; O: a new list that nobody knows; P: to be looked at -/
inductive Md where | F | O | P
  deriving DecidableEq

/-- H: the heap ahead -/
def Post (P : Pm) (H : Hp) : Md → Gh → Hp → V → D → Prop
  | .F, g, _, v, d => Rp P g.G g.am v d
  | .O, g, H', v, d => Own P g H' v d ∧ ∀ l a, d = .lst l → v = .ref a → H a = none
  | .P, g, H', v, d => Rp P g.G g.am v d ∨ ∃ (a : Addr) (vs : List V) (ds : List D), v = .ref a ∧ d = .lst ds ∧ H' a = some (.lst vs) ∧ g.R a = none ∧ Rps P g.G g.am vs ds

/-- an error's datum -/
def XDat (P : Pm) (G : Hp) (am : Nat → Option Addr) : Option Str → Option Addr → D → Prop
  | some n, some dx, d => ∃ v, G dx = some (.xd [(n, v)]) ∧ Rp P G am v d
  | none, none, d => d = .non
  | _, _, _ => False

/-- what is wanted of an error, by its data -/
abbrev WD := Nat → D → Gh → Hp → Prop
/-- the outcome: K of a value, E of an error -/
def Res (P : Pm) (g : Gh) (H : Hp) (E : WD) {α : Type} (r : Rs α) (K : α → Gh → Hp → Prop) : Prop :=
  match r with
  | .ok a w' => ∀ g' H', g'.w = w' → Lay P g' H' → Ext g H g' H' → K a g' H'
  | .exc c d w' => ∀ g' H', g'.w = w' → Lay P g' H' → Ext g H g' H' → E c d g' H'
  | .bad => False
section
variable {P : Pm} {g : Gh} {H : Hp} {E : WD} {α β : Type}
theorem Res.imp {r : Rs α} {K K' : α → Gh → Hp → Prop} (h : Res P g H E r K) (f : ∀ a g' H', Lay P g' H' → Ext g H g' H' → K a g' H' → K' a g' H') : Res P g H E r K' := by
  cases r with
  | ok a w => exact fun g' H' e l x => f a g' H' l x (h g' H' e l x)
  | exc c d w => exact h
  | bad => exact h
theorem Res.bind {m : M α} {k : α → M β} {K : β → Gh → Hp → Prop} (h : Res P g H E (M.bind m k g.w) K) : Res P g H E (m g.w) fun a g1 H1 => Res P g1 H1 E (k a g1.w) K := by
  unfold M.bind at h
  cases e : m g.w with
  | ok a w =>
    rw [e] at h
    intro g1 H1 e1 l1 x1
    subst e1
    have h' : Res P g H E (k a g1.w) K := h
    cases e2 : k a g1.w with
    | ok b w' =>
      rw [e2] at h'
      exact fun g' H' e' l x => h' g' H' e' l (x1.trans x)
    | exc c d w' =>
      rw [e2] at h'
      exact fun g' H' e' l x => h' g' H' e' l (x1.trans x)
    | bad => rw [e2] at h'; exact h'
  | exc c d w =>
    rw [e] at h
    exact h
  | bad =>
    rw [e] at h
    exact h
theorem Res.pure {a : α} {K : α → Gh → Hp → Prop} (h : Res P g H E (M.pure a g.w) K) (l : Lay P g H) : K a g H := h g H rfl l (Ext.refl g H)
theorem Res.here {a : α} {K : α → Gh → Hp → Prop} (h : Res P g H E (.ok a g.w) K) (l : Lay P g H) : K a g H := h g H rfl l (Ext.refl g H)
theorem Res.opt {o : Option α} {K : α → Gh → Hp → Prop} (h : Res P g H E (M.opt o g.w) K) : ∃ a, o = some a ∧ Res P g H E (.ok a g.w) K := by
  cases o with
  | none => exact h.elim
  | some a => exact ⟨a, rfl, h⟩
end

section
variable {P : Pm} {g g' : Gh} {H H' Hb : Hp} {v : V} {d : D}
theorem Rp.ext (x : Ext g H g' H') (h : Rp P g.G g.am v d) : Rp P g'.G g'.am v d := h.mono x.gg x.am
theorem Rps.ext {vs : List V} {ds : List D} (x : Ext g H g' H') (h : Rps P g.G g.am vs ds) : Rps P g'.G g'.am vs ds := h.mono x.gg x.am
theorem Own.ext (x : Ext g H g' H') (h : Own P g H v d) : Own P g' H' v d := by
  cases d with
  | lst ds =>
    obtain ⟨a, vs, e1, e3, e4, e5, e6⟩ := h
    refine ⟨a, vs, e1, x.keep a _ e3 e5, ?_, x.rnone e3 e5, e6.ext x⟩
    cases q : g'.G a with
    | none => rfl
    | some u =>
      rcases x.gn a u q with z | z
      · rw [e4] at z; cases z
      · rw [e3] at z; cases z
  | _ => exact Rp.ext x h
/-- what is one's own may be looked at -/
theorem Own.toP (h : Own P g H v d) : Post P Hb .P g H v d := by
  cases d with
  | lst ds =>
    obtain ⟨a, vs, e1, e3, e4, e5, e6⟩ := h
    exact .inr ⟨a, vs, ds, e1, rfl, e3, e5, e6⟩
  | _ => exact .inl h
/-- what may be looked at, still may -/
theorem Post.ext (x : Ext g H g' H') (h : Post P Hb .P g H v d) : Post P Hb .P g' H' v d := by
  rcases h with h | ⟨a, vs, ds, e1, e2, e3, e4, e5⟩
  · exact .inl (h.ext x)
  · exact .inr ⟨a, vs, ds, e1, e2, x.keep a _ e3 e4, x.rnone e3 e4, e5.ext x⟩
theorem Post.toP {md : Md} (h : Post P Hb md g H v d) : Post P Hb .P g H v d := by
  cases md with
  | F => exact .inl h
  | O => exact h.1.toP
  | P => exact h
/-- a new object laid, known to nobody yet -/
theorem Ext.new {p : Addr} {o : HO} (n : H p = none) : Ext g H g (upd H p o) where
  keep := fun a u e _ => by rw [upd_ne (ne_of_none e n)]; exact e
  gg := fun _ _ e => e
  gn := fun _ _ e => .inl e
  rn := fun _ _ e => .inl (by rw [e]; simp)
  am := fun _ _ e => e
  th := fun a u e => by rw [upd_ne (ne_of_none e n), e]; simp
theorem Lay.new {p : Addr} {o : HO} (l : Lay P g H) (n : H p = none) : Lay P g (upd H p o) where
  gh := fun a u e => by rw [upd_ne (ne_of_none (l.gh a u e) n)]; exact l.gh a u e
  rh := fun a u e => by rw [upd_ne (ne_of_none (l.rh a u e) n)]; exact l.rh a u e
  dj := l.dj
  wr := l.wr
theorem Lay.free (l : Lay P g H) {p : Addr} (n : H p = none) : g.G p = none ∧ g.R p = none := by
  constructor
  · cases q : g.G p with
    | none => rfl
    | some u => have := l.gh p u q; rw [n] at this; cases this
  · cases q : g.R p with
    | none => rfl
    | some u => have := l.rh p u q; rw [n] at this; cases this
/-- from now on it is never changed -/
def Gh.frz (g : Gh) (p : Addr) (o : HO) : Gh := { g with G := upd g.G p o }
theorem Lay.frz {p : Addr} {o : HO} (l : Lay P g H) (h : H p = some o) (n : g.R p = none) : Lay P (g.frz p o) H where
  gh := fun a u e => by
    by_cases q : a = p
    · subst q
      have e' : upd g.G a o a = some u := e
      rw [upd_same] at e'; cases e'; exact h
    · have e' : upd g.G p o a = some u := e
      rw [upd_ne q] at e'; exact l.gh a u e'
  rh := l.rh
  dj := fun a u e => by
    by_cases q : a = p
    · subst q; exact n
    · have e' : upd g.G p o a = some u := e
      rw [upd_ne q] at e'; exact l.dj a u e'
  wr := l.wr
theorem same_frz {p : Addr} {o : HO} (n : g.G p = none) : Same g.G (g.frz p o).G := fun a u e => by
  show upd g.G p o a = some u
  rw [upd_ne (ne_of_none e n)]; exact e
/-- laid and frozen -/
theorem Ext.newF {p : Addr} {o : HO} (l : Lay P g H) (n : H p = none) : Ext g H (g.frz p o) (upd H p o) where
  keep := fun a u e _ => by rw [upd_ne (ne_of_none e n)]; exact e
  gg := same_frz (l.free n).1
  gn := fun a u e => by
    by_cases q : a = p
    · subst q; exact .inr n
    · have e' : upd g.G p o a = some u := e
      rw [upd_ne q] at e'; exact .inl e'
  rn := fun _ _ e => .inl (by have e' : g.R _ = some _ := e; rw [e']; simp)
  am := fun _ _ e => e
  th := fun a u e => by rw [upd_ne (ne_of_none e n), e]; simp
theorem Lay.newF {p : Addr} {o : HO} (l : Lay P g H) (n : H p = none) : Lay P (g.frz p o) (upd H p o) := (l.new n).frz upd_same (l.free n).2
end

section
variable {P : Pm} {g0 g g' : Gh} {H0 H H' : Hp} {fl : Fls} {σ : L2.St} {ρ : En}
theorem SRel.to (S : SRel P g0 H0 fl g H σ ρ) (l : Lay P g' H') (x : Ext g H g' H') : SRel P g0 H0 fl g' H' σ ρ where
  lay := l
  ext := S.ext.trans x
  len := S.len
  fro := fun i d e f => let ⟨v, h1, h2⟩ := S.fro i d e f; ⟨v, h1, h2.ext x⟩
  own := fun i d e f => let ⟨v, h1, h2, h3⟩ := S.own i d e f; ⟨v, h1, Own.ext x h2, h3⟩
  sep := S.sep
end

/-- where one stands: the body's context, the entry, what is wanted of errors (by their data) and what that is to the machine -/
structure Ct where
  X : Cx
  P : Pm
  g0 : Gh
  H0 : Hp
  W : WX
structure Ct.Ok (c : Ct) : Prop where
  hK : c.X.K = c.P.K
  calm : c.X.calm = true
  nd : c.X.N.Nodup
  hu : c.X.A.units + 200 < cLine
  hgd : c.X.A.guards = some []
  tk : Takes c.X c.W
  sm : ∃ o, c.X.base.get? sysModules = some o
/-- the wish for errors, said of data -/
def Ct.ew (c : Ct) (σ : L2.St) : WD := fun k d g' H' => ∀ C n dx, c.P.exc k = some (C, n) → XDat c.P g'.G g'.am n dx d → c.W (.ref C) dx σ H'

/-- an expression's reading by data -/
def tD (c : Ct) (fl : Fls) (md : Md) (f : En → M D) : TE := fun σ H Q =>
  ∃ g ρ, SRel c.P c.g0 c.H0 fl g H σ ρ ∧ Res c.P g H (c.ew σ) (f ρ g.w) fun d g' H' => ∀ v, Post c.P H md g' H' v d → Q v H'
def tDT (c : Ct) (fl : Fls) (f : En → M Bool) : TT := fun σ H Q =>
  ∃ g ρ, SRel c.P c.g0 c.H0 fl g H σ ρ ∧ Res c.P g H (c.ew σ) (f ρ g.w) fun b _ H' => Q b H'

theorem _root_.L2.PE.imp {X : Cx} {e : Expr} {t t' : TE} (h : PE X e t) (i : ∀ σ H Q, t' σ H Q → t σ H Q) : PE X e t' := ⟨fun pins s σ H Q I h' => h.run pins s σ H Q I (i σ H Q h')⟩
theorem _root_.L2.PT.imp {X : Cx} {e : Expr} {t t' : TT} (h : PT X e t) (i : ∀ σ H Q, t' σ H Q → t σ H Q) : PT X e t' := ⟨fun pins s σ H Q I h' => h.run pins s σ H Q I (i σ H Q h')⟩
end MW
end
section
set_option Elab.async false
set_option autoImplicit false
set_option maxRecDepth 100000
/-! MW4: expressions: names, constants, operators, displays, subscripts. -/
namespace MW
open PySem PySem.Spec PyProof.Rows L2

def okHead : Expr → Bool
  | .Starred _ _ => false
  | .Set _ _ _ => false
  | .Slice _ _ _ _ => false
  | _ => true
/-- an expression: its reading by data, its head -/
structure JX (c : Ct) (fl : Fls) (e : Expr) (md : Md) (f : En → M D) : Prop where
  pe : PE c.X e (tD c fl md f)
  hd : okHead e = true
theorem star_of {e : Expr} (h : okHead e = true) (es : List Expr) (env : PySem.Env) : starEach (e :: es) env = (false, eval e env) :: starEach es env := by
  cases e <;> first | rfl | exact absurd h (by simp [okHead])
theorem ix_of {e : Expr} (h : okHead e = true) : PlainIx e := by
  intro o i
  cases e <;> first | rfl | exact absurd h (by simp [okHead])
theorem mark_of {e : Expr} (h : okHead e = true) (op : CmpOp) : behindInMarks op e = false := by
  cases e <;> first | rfl | exact absurd h (by simp [okHead])
theorem fold_of {e : Expr} (h : okHead e = true) (env : PySem.Env) (x : Value) : foldedSetIterable e env x = pure x := by
  cases e <;> first | rfl | exact absurd h (by simp [okHead])

section
variable {P : Pm} {g g' : Gh} {H H' Hb : Hp} {v : V}
theorem Post.lst {ds : List D} (l : Lay P g H) (h : Post P Hb .P g H v (.lst ds)) : ∃ (a : Addr) (vs : List V), v = .ref a ∧ H a = some (.lst vs) ∧ g.R a = none ∧ Rps P g.G g.am vs ds := by
  rcases h with h | ⟨a, vs, ds', e1, e2, e3, e4, e5⟩
  · cases h with
    | lst h r => exact ⟨_, _, rfl, l.gh _ _ h, l.dj _ _ h, r⟩
  · cases e2
    exact ⟨a, vs, e1, e3, e4, e5⟩
theorem Post.nl {d : D} (h : Post P Hb .P g H v d) (n : ∀ l, d ≠ .lst l) : Rp P g.G g.am v d := by
  rcases h with h | ⟨a, vs, ds', e1, e2, e3, e4, e5⟩
  · exact h
  · exact absurd e2 (n _)
theorem Post.int {i : Int} (h : Post P Hb .P g H v (.int i)) : v = .int i := by
  have := h.nl (by intro l e; cases e)
  cases this; rfl
theorem Post.str {x : Str} (h : Post P Hb .P g H v (.str x)) : v = .str x := by
  have := h.nl (by intro l e; cases e)
  cases this; rfl
theorem Post.bl {b : Bool} (h : Post P Hb .P g H v (.bl b)) : v = .bl b := by
  have := h.nl (by intro l e; cases e)
  cases this; rfl
theorem Post.non (h : Post P Hb .P g H v .non) : v = .non := by
  have := h.nl (by intro l e; cases e)
  cases this; rfl
theorem Post.tup {ds : List D} (l : Lay P g H) (h : Post P Hb .P g H v (.tup ds)) : ∃ (a : Addr) (vs : List V), v = .ref a ∧ SqT P.K H a vs ∧ Rps P g.G g.am vs ds := by
  have := h.nl (by intro l e; cases e)
  cases this with
  | tup q r => exact ⟨_, _, rfl, SqT.mono l.gh q, r⟩
/-- a new list of one's own -/
theorem post_newL {p : Addr} {vs : List V} {ds : List D} (l : Lay P g H) (n : H p = none) (r : Rps P g.G g.am vs ds) : Post P H .O g (upd H p (.lst vs)) (.ref p) (.lst ds) :=
  ⟨⟨p, vs, rfl, upd_same, (l.free n).1, (l.free n).2, r⟩, fun _ a _ e => by cases e; exact n⟩
/-- a new tuple, frozen -/
theorem rp_newT {p : Addr} {vs : List V} {ds : List D} (l : Lay P g H) (n : H p = none) (r : Rps P g.G g.am vs ds) : Rp P (g.frz p (.tup vs)).G (g.frz p (.tup vs)).am (.ref p) (.tup ds) :=
  .tup (SqT.of upd_same) (r.mono (same_frz (l.free n).1) fun _ _ e => e)
theorem post_O {d : D} (n : ∀ l, d ≠ .lst l) (h : Rp P g.G g.am v d) : Post P Hb .O g H v d := by
  refine ⟨?_, fun l a e _ => absurd e (n l)⟩
  cases d <;> first | exact h | exact absurd rfl (n _)
end

/-- the outcome of an operation on values that lays new objects at most -/
def Fin (c : Ct) (g : Gh) (H : Hp) (d : D) (Q : VK) : Prop := ∀ v g' H', g'.w = g.w → Lay c.P g' H' → Ext g H g' H' → Post c.P H .O g' H' v d → Q v H'
section
variable {c : Ct} {g : Gh} {H : Hp} {d : D} {Q : VK}
theorem Fin.newL (f : Fin c g H d Q) {ds : List D} {vs : List V} (e : d = .lst ds) (l : Lay c.P g H) (r : Rps c.P g.G g.am vs ds) : ∀ p, H p = none → Q (.ref p) (upd H p (.lst vs)) := fun p n => by
  subst e
  exact f _ g _ rfl (l.new n) (Ext.new n) (post_newL l n r)
theorem Fin.newT (f : Fin c g H d Q) {ds : List D} {vs : List V} (e : d = .tup ds) (l : Lay c.P g H) (r : Rps c.P g.G g.am vs ds) : ∀ p, H p = none → Q (.ref p) (upd H p (.tup vs)) := fun p n => by
  subst e
  exact f _ (g.frz p (.tup vs)) _ rfl (l.newF n) (Ext.newF l n) (post_O (by intro l e; cases e) (rp_newT l n r))
theorem Fin.old (f : Fin c g H d Q) {v : V} (l : Lay c.P g H) (n : ∀ l, d ≠ .lst l) (r : Rp c.P g.G g.am v d) : Q v H := f _ g H rfl l (Ext.refl g H) (post_O n r)
theorem Fin.int {i : Int} (f : Fin c g H (.int i) Q) (l : Lay c.P g H) : Q (.int i) H := f.old l (by intro l e; cases e) (.int i)
theorem Fin.bl {b : Bool} (f : Fin c g H (.bl b) Q) (l : Lay c.P g H) : Q (.bl b) H := f.old l (by intro l e; cases e) (.bl b)
theorem Fin.str {x : Str} (f : Fin c g H (.str x) Q) (l : Lay c.P g H) : Q (.str x) H := f.old l (by intro l e; cases e) (.str x)
end

/-- an operation on two values, by data -/
def Op2 (c : Ct) (f : Value → Value → Sem Value) (op : D → D → Option D) : Prop :=
  ∃ r : R2, OpR c.X f r ∧ ∀ (g : Gh) (H Hb : Hp) (x y : V) (dx dy d : D) (Q : VK), Lay c.P g H → Post c.P Hb .P g H x dx → Post c.P Hb .P g H y dy → op dx dy = some d → Fin c g H d Q → r x y H Q

section
variable {c : Ct} {f : Value → Value → Sem Value}
theorem Op2.of_none {op : D → D → Option D} (h : ∀ x y, op x y = none) : Op2 c f op :=
  ⟨fun _ _ _ _ => False, fun _ _ _ _ _ _ _ _ _ _ _ _ q => q.elim, fun _ _ _ _ _ dx dy _ _ _ _ _ e _ => by rw [h dx dy] at e; cases e⟩
theorem op2_sub : Op2 c (binaryOp .Sub) D.sub := by
  refine ⟨_, op_sub, fun g H Hb x y dx dy d Q l hx hy e F => ?_⟩
  unfold D.sub at e
  split at e
  · cases e
    exact ⟨_, _, hx.int, hy.int, F.int l⟩
  · cases e
theorem op2_mod : Op2 c (binaryOp .Mod) D.mod := by
  refine ⟨_, op_mod, fun g H Hb x y dx dy d Q l hx hy e F => ?_⟩
  unfold D.mod at e
  split at e
  · split at e
    · rename_i hj
      cases e
      exact ⟨_, _, hx.int, hy.int, of_decide_eq_true hj, F.int l⟩
    · cases e
  · cases e
theorem op2_fdiv : Op2 c (binaryOp .FloorDiv) D.fdiv := by
  refine ⟨_, op_fdiv, fun g H Hb x y dx dy d Q l hx hy e F => ?_⟩
  unfold D.fdiv at e
  split at e
  · split at e
    · rename_i hj
      cases e
      rw [Bool.and_eq_true] at hj
      exact ⟨_, _, hx.int, hy.int, ⟨of_decide_eq_true hj.1, of_decide_eq_true hj.2⟩, F.int l⟩
    · cases e
  · cases e
theorem op2_pow : Op2 c (binaryOp .Pow) D.pow := by
  refine ⟨_, op_pow, fun g H Hb x y dx dy d Q l hx hy e F => ?_⟩
  unfold D.pow at e
  split at e
  · split at e
    · rename_i hj
      cases e
      simp only [Bool.and_eq_true, decide_eq_true_eq] at hj
      exact ⟨_, _, hx.int, hy.int, ⟨hj.1.1, hj.1.2, hj.2⟩, F.int l⟩
    · cases e
  · cases e
end

section
variable {c : Ct} {pins : List (Addr × Obj)} {σ : L2.St} {g : Gh} {H Hb : Hp} {s : Shared} {v : V} {u : Value} {d : D}
theorem Post.reads (ok : c.Ok) (I : Inv c.X pins σ H s) (l : Lay c.P g H) (h : Post c.P Hb .P g H v d) (r : RelV v u) (sh : d.rd = true) : ∃ as, Reads s.heap u d.toPy as ∧ ∀ b ∈ as, H b ≠ none := by
  rcases h with h | ⟨a, vs, ds, e1, e2, e3, e4, e5⟩
  · exact Rp.reads I ok.hK l.gh d v u h r sh
  · subst e1; subst e2
    cases r
    obtain ⟨its, rv, ⟨o, n, ho, hc, _, hd⟩, _⟩ := I.list (SqL.of e3)
    obtain ⟨as, hr, hn⟩ := Rps.reads I ok.hK l.gh ds _ its e5 rv (by simpa only [D.rd] using sh)
    refine ⟨_, .list ho hc hd hr, fun b z => ?_⟩
    rcases List.mem_cons.mp z with rfl | z
    · rw [e3]; simp
    · exact hn b z
end

section
variable {c : Ct}
/-- == and != by data -/
def rEqM (c : Ct) (neg : Bool) : R2 := fun x y H Q => ∃ g Hb dx dy b, Lay c.P g H ∧ Post c.P Hb .P g H x dx ∧ Post c.P Hb .P g H y dy ∧ D.eqv dx dy = some b ∧ Q (.bl (if neg then !b else b)) H
theorem vals_nil {us : List Value} (r : Vals [] us) : us = [] := by cases r; rfl
theorem isEmpty_rel {ds : List D} {vs : List V} {us : List Value} {P : Pm} {G : Hp} {am : Nat → Option Addr} (r : Rps P G am vs ds) (q : Vals vs us) : (us.toArray.size == 0) = ds.isEmpty := by
  have h1 := r.length
  have h2 := q.length
  cases ds <;> cases us <;> simp_all
theorem op_eqM (ok : c.Ok) : OpR c.X (compareOp .Eq) (rEqM c false) := by
  intro pins s σ H x y v u Q I rx ry h
  obtain ⟨g, Hb, dx, dy, b, l, hx, hy, e, q⟩ := h
  have hu := ok.hu
  unfold D.eqv at e
  split at e
  · rename_i xs
    cases e
    obtain ⟨a, vs, rfl, hs, r⟩ := hx.tup l
    obtain ⟨a', vs', rfl, hs', r'⟩ := hy.tup l
    cases rx; cases ry
    cases r'
    obtain ⟨its, rv, ht, _⟩ := I.tuple (ok.hK ▸ hs)
    obtain ⟨its', rv', ht', _⟩ := I.tuple (ok.hK ▸ hs')
    rw [vals_nil rv'] at ht'
    refine SeqAt.RcAt.tuples (e := fun _ => true) ht ht' (by omega) (fun j _ h2 => absurd h2 (by simp)) c.X.prog c.X.w c.X.xe _ ⟨.bl _, H, I, ?_, q⟩
    show Value.bool _ = Value.bool _
    simp only [List.size_toArray, List.length_nil, Nat.min_zero, List.range_zero, List.all_nil, Bool.true_and, Bool.false_eq_true, if_false]
    rw [← isEmpty_rel r rv]; rfl
  · rename_i xs
    cases e
    obtain ⟨a, vs, rfl, hs, _, r⟩ := hx.lst l
    obtain ⟨a', vs', rfl, hs', _, r'⟩ := hy.lst l
    cases rx; cases ry
    cases r'
    obtain ⟨its, rv, ⟨o, n, ho, hc, _, hd⟩, _⟩ := I.list (SqL.of hs)
    obtain ⟨its', rv', ⟨o', n', ho', hc', _, hd'⟩, _⟩ := I.list (SqL.of hs')
    rw [vals_nil rv'] at hd'
    have hl : s.heap.IsList a its.toArray := ⟨o, ho, hc, n, hd⟩
    have hl' : s.heap.IsList a' [].toArray := ⟨o', ho', hc', n', hd'⟩
    have ei := isEmpty_rel r rv
    cases hz : xs.isEmpty with
    | true =>
      rw [hz] at ei q
      have ei' : its.toArray.size = ([] : List Value).toArray.size := by simpa using ei
      refine SeqAt.RcAt.lists (e := fun _ => true) hl hl' ei' (by omega) (fun j _ h2 => absurd h2 (by simp)) c.X.prog c.X.w c.X.xe _ ⟨.bl _, H, I, ?_, q⟩
      show Value.bool _ = Value.bool _
      rw [ei']; rfl
    | false =>
      rw [hz] at ei q
      have ei' : (its.toArray.size != ([] : List Value).toArray.size) = true := by simpa [bne] using ei
      exact SeqAt.RcAt.lists_lengths hl hl' ei' (by omega) c.X.prog c.X.w c.X.xe _ ⟨.bl _, H, I, rfl, q⟩
  · split at e
    · rename_i hc
      simp only [Bool.and_eq_true, decide_eq_true_eq] at hc
      obtain ⟨⟨⟨p1, p2⟩, d1⟩, d2⟩ := hc
      cases e
      obtain ⟨as, r1, _⟩ := hx.reads ok I l rx (D.rd_of_plain _ p1)
      obtain ⟨bs, r2, _⟩ := hy.reads ok I l ry (D.rd_of_plain _ p2)
      exact SeqAt.eq_plain r1 r2 (D.py_plain _ p1) (D.py_plain _ p2) (by omega) ⟨.bl _, H, I, rfl, q⟩
    · cases e
theorem op_neM (ok : c.Ok) : OpR c.X (compareOp .NotEq) (rEqM c true) := by
  intro pins s σ H x y v u Q I rx ry h
  obtain ⟨g, Hb, dx, dy, b, l, hx, hy, e, q⟩ := h
  have hu := ok.hu
  unfold D.eqv at e
  split at e
  · rename_i xs
    cases e
    obtain ⟨a, vs, rfl, hs, r⟩ := hx.tup l
    obtain ⟨a', vs', rfl, hs', r'⟩ := hy.tup l
    cases rx; cases ry
    cases r'
    obtain ⟨its, rv, ht, _⟩ := I.tuple (ok.hK ▸ hs)
    obtain ⟨its', rv', ht', _⟩ := I.tuple (ok.hK ▸ hs')
    rw [vals_nil rv'] at ht'
    refine SeqAt.RcNeAt.tuples (e := fun _ => true) ht ht' (by omega) (fun j _ h2 => absurd h2 (by simp)) c.X.prog c.X.w c.X.xe _ ⟨.bl _, H, I, ?_, q⟩
    show Value.bool _ = Value.bool _
    simp only [List.size_toArray, List.length_nil, Nat.min_zero, List.range_zero, List.all_nil, Bool.true_and, if_true]
    rw [← isEmpty_rel r rv]; rfl
  · rename_i xs
    cases e
    obtain ⟨a, vs, rfl, hs, _, r⟩ := hx.lst l
    obtain ⟨a', vs', rfl, hs', _, r'⟩ := hy.lst l
    cases rx; cases ry
    cases r'
    obtain ⟨its, rv, ⟨o, n, ho, hc, _, hd⟩, _⟩ := I.list (SqL.of hs)
    obtain ⟨its', rv', ⟨o', n', ho', hc', _, hd'⟩, _⟩ := I.list (SqL.of hs')
    rw [vals_nil rv'] at hd'
    have hl : s.heap.IsList a its.toArray := ⟨o, ho, hc, n, hd⟩
    have hl' : s.heap.IsList a' [].toArray := ⟨o', ho', hc', n', hd'⟩
    have ei := isEmpty_rel r rv
    cases hz : xs.isEmpty with
    | true =>
      rw [hz] at ei q
      have ei' : its.toArray.size = ([] : List Value).toArray.size := by simpa using ei
      refine SeqAt.RcNeAt.lists (e := fun _ => true) hl hl' ei' (by omega) (fun j _ h2 => absurd h2 (by simp)) c.X.prog c.X.w c.X.xe _ ⟨.bl _, H, I, ?_, q⟩
      show Value.bool _ = Value.bool _
      rw [ei']; rfl
    | false =>
      rw [hz] at ei q
      have ei' : (its.toArray.size != ([] : List Value).toArray.size) = true := by simpa [bne] using ei
      exact SeqAt.RcNeAt.lists_lengths hl hl' ei' (by omega) c.X.prog c.X.w c.X.xe _ ⟨.bl _, H, I, rfl, q⟩
  · split at e
    · rename_i hc
      simp only [Bool.and_eq_true, decide_eq_true_eq] at hc
      obtain ⟨⟨⟨p1, p2⟩, d1⟩, d2⟩ := hc
      cases e
      obtain ⟨as, r1, _⟩ := hx.reads ok I l rx (D.rd_of_plain _ p1)
      obtain ⟨bs, r2, _⟩ := hy.reads ok I l ry (D.rd_of_plain _ p2)
      exact SeqAt.ne_plain r1 r2 (D.py_plain _ p1) (D.py_plain _ p2) (by omega) ⟨.bl _, H, I, rfl, q⟩
    · cases e
/-- in, not in a list or a tuple, by data -/
def rInM (c : Ct) (neg : Bool) : R2 := fun x y H Q => ∃ g Hb dx dy b, Lay c.P g H ∧ Post c.P Hb .P g H x dx ∧ Post c.P Hb .P g H y dy ∧ (∀ z, dy ≠ .str z) ∧ D.isin dx dy = some b ∧ Q (.bl (if neg then !b else b)) H
theorem op_inM (ok : c.Ok) : OpR c.X (compareOp .In) (rInM c false) := by
  intro pins s σ H x y v u Q I rx ry h
  obtain ⟨g, Hb, dx, dy, b, l, hx, hy, ns, e, q⟩ := h
  have hu := ok.hu
  unfold D.isin at e
  split at e
  · exact absurd rfl (ns _)
  · split at e
    · rename_i hc
      simp only [Bool.and_eq_true, decide_eq_true_eq] at hc
      obtain ⟨⟨⟨p1, p2⟩, d1⟩, d2⟩ := hc
      cases e
      obtain ⟨as, r1, _⟩ := hx.reads ok I l rx (D.rd_of_plain _ p1)
      obtain ⟨bs, r2, _⟩ := hy.reads ok I l ry (by simp only [D.rd]; exact D.rds_of_plain _ p2)
      exact SeqAt.in_list_data r2 r1 (D.py_plains _ p2) (D.py_plain _ p1) (by omega) ⟨.bl _, H, I, rfl, q⟩
    · cases e
  · split at e
    · rename_i hc
      simp only [Bool.and_eq_true, decide_eq_true_eq] at hc
      obtain ⟨⟨⟨p1, p2⟩, d1⟩, d2⟩ := hc
      cases e
      obtain ⟨as, r1, _⟩ := hx.reads ok I l rx (D.rd_of_plain _ p1)
      obtain ⟨bs, r2, _⟩ := hy.reads ok I l ry (by simp only [D.rd]; exact D.rds_of_plain _ p2)
      exact SeqAt.in_tuple_data r2 r1 (D.py_plains _ p2) (D.py_plain _ p1) (by omega) ⟨.bl _, H, I, rfl, q⟩
    · cases e
  · cases e
theorem op_notinM (ok : c.Ok) : OpR c.X (compareOp .NotIn) (rInM c true) := by
  intro pins s σ H x y v u Q I rx ry h
  obtain ⟨g, Hb, dx, dy, b, l, hx, hy, ns, e, q⟩ := h
  have hu := ok.hu
  unfold D.isin at e
  split at e
  · exact absurd rfl (ns _)
  · split at e
    · rename_i hc
      simp only [Bool.and_eq_true, decide_eq_true_eq] at hc
      obtain ⟨⟨⟨p1, p2⟩, d1⟩, d2⟩ := hc
      cases e
      obtain ⟨as, r1, _⟩ := hx.reads ok I l rx (D.rd_of_plain _ p1)
      obtain ⟨bs, r2, _⟩ := hy.reads ok I l ry (by simp only [D.rd]; exact D.rds_of_plain _ p2)
      exact SeqAt.notIn_list_data r2 r1 (D.py_plains _ p2) (D.py_plain _ p1) (by omega) ⟨.bl _, H, I, rfl, q⟩
    · cases e
  · split at e
    · rename_i hc
      simp only [Bool.and_eq_true, decide_eq_true_eq] at hc
      obtain ⟨⟨⟨p1, p2⟩, d1⟩, d2⟩ := hc
      cases e
      obtain ⟨as, r1, _⟩ := hx.reads ok I l rx (D.rd_of_plain _ p1)
      obtain ⟨bs, r2, _⟩ := hy.reads ok I l ry (by simp only [D.rd]; exact D.rds_of_plain _ p2)
      exact SeqAt.notIn_tuple_data r2 r1 (D.py_plains _ p2) (D.py_plain _ p1) (by omega) ⟨.bl _, H, I, rfl, q⟩
    · cases e
  · cases e

/-- a comparison of two values, by data -/
def Cmp2 (c : Ct) (f : Value → Value → Sem Value) (op : D → D → Option Bool) : Prop :=
  ∃ r : R2, OpR c.X f r ∧ ∀ (g : Gh) (H Hb : Hp) (x y : V) (dx dy : D) (b : Bool) (Q : VK), Lay c.P g H → Post c.P Hb .P g H x dx → Post c.P Hb .P g H y dy → op dx dy = some b → Q (.bl b) H → r x y H Q
def COp.py : COp → CmpOp
  | .eq => .Eq | .ne => .NotEq | .lt => .Lt | .le => .LtE | .gt => .Gt | .ge => .GtE | .isin => .In | .notin => .NotIn
theorem cmp2 (ok : c.Ok) : ∀ o : COp, Cmp2 c (compareOp o.py) (D.cop o)
  | .eq => ⟨_, op_eqM ok, fun g H Hb x y dx dy b Q l hx hy e q => ⟨g, Hb, dx, dy, b, l, hx, hy, e, q⟩⟩
  | .ne => ⟨_, op_neM ok, fun g H Hb x y dx dy b Q l hx hy e q => by
      obtain ⟨b', e', rfl⟩ := Option.map_eq_some_iff.mp (show (D.eqv dx dy).map (!·) = some b from e)
      exact ⟨g, Hb, dx, dy, b', l, hx, hy, e', q⟩⟩
  | .lt => ⟨_, op_lt, fun g H Hb x y dx dy b Q l hx hy e q => by
      have e' : D.lt dx dy = some b := e
      unfold D.lt at e'
      split at e'
      · cases e'; exact ⟨_, _, hx.int, hy.int, q⟩
      · cases e'⟩
  | .le => ⟨_, op_le, fun g H Hb x y dx dy b Q l hx hy e q => by
      have e' : D.le dx dy = some b := e
      unfold D.le at e'
      split at e'
      · cases e'; exact ⟨_, _, hx.int, hy.int, q⟩
      · cases e'⟩
  | .gt => ⟨_, op_gt, fun g H Hb x y dx dy b Q l hx hy e q => by
      have e' : D.gt dx dy = some b := e
      unfold D.gt at e'
      split at e'
      · cases e'; exact ⟨_, _, hx.int, hy.int, q⟩
      · cases e'⟩
  | .ge => ⟨_, op_ge, fun g H Hb x y dx dy b Q l hx hy e q => by
      have e' : D.ge dx dy = some b := e
      unfold D.ge at e'
      split at e'
      · cases e'; exact ⟨_, _, hx.int, hy.int, q⟩
      · cases e'⟩
  | .isin => ⟨_, (op_inM ok).or op_in_str, fun g H Hb x y dx dy b Q l hx hy e q => by
      cases dy with
      | str z =>
        cases dx with
        | str y => cases e; exact .inr ⟨_, _, hx.str, hy.str, q⟩
        | _ => cases e
      | _ => exact .inl ⟨g, Hb, dx, _, b, l, hx, hy, (by intro z h; cases h), e, q⟩⟩
  | .notin => ⟨_, (op_notinM ok).or op_notin_str, fun g H Hb x y dx dy b Q l hx hy e q => by
      obtain ⟨b', e', rfl⟩ := Option.map_eq_some_iff.mp (show (D.isin dx dy).map (!·) = some b from e)
      cases dy with
      | str z =>
        cases dx with
        | str y => cases e'; exact .inr ⟨_, _, hx.str, hy.str, q⟩
        | _ => cases e'
      | _ => exact .inl ⟨g, Hb, dx, _, b', l, hx, hy, (by intro z h; cases h), e', q⟩⟩

/-! ### + and * -/
theorem op2_add (ok : c.Ok) : Op2 c (binaryOp .Add) D.add := by
  refine ⟨_, op_add.or (op_add_str.or (op_catA.or op_cat)), fun g H Hb x y dx dy d Q l hx hy e F => ?_⟩
  unfold D.add at e
  split at e
  · cases e
    exact .inl ⟨_, _, hx.int, hy.int, F.int l⟩
  · split at e
    · rename_i hz
      cases e
      exact .inr (.inl ⟨_, _, hx.str, hy.str, of_decide_eq_true hz, F.str l⟩)
    · cases e
  · rename_i xs ys
    split at e
    · rename_i hz
      cases e
      obtain ⟨a, vs, rfl, hs, r⟩ := hx.tup l
      obtain ⟨b, ws, rfl, hs', r'⟩ := hy.tup l
      have n1 := r.length
      have n2 := r'.length
      refine .inr (.inr (.inl ⟨a, b, vs, ws, rfl, rfl, ok.hK ▸ hs, ok.hK ▸ hs', ?_, fun z => ?_, fun _ z => ?_, fun _ _ => F.newT rfl l (r.append r')⟩))
      · rw [n1, n2]
        exact of_decide_eq_true hz
      · subst z
        cases r
        exact F.old l (by intro l e; cases e) (hy.nl (by intro l e; cases e))
      · subst z
        cases r'
        rw [List.append_nil] at F
        exact F.old l (by intro l e; cases e) (hx.nl (by intro l e; cases e))
    · cases e
  · rename_i xs ys
    split at e
    · rename_i hz
      cases e
      obtain ⟨a, vs, rfl, hs, _, r⟩ := hx.lst l
      obtain ⟨b, ws, rfl, hs', _, r'⟩ := hy.lst l
      refine .inr (.inr (.inr ⟨a, b, vs, ws, rfl, rfl, hs, hs', ?_, F.newL rfl l (r.append r')⟩))
      rw [r.length, r'.length]
      exact of_decide_eq_true hz
    · cases e
  · cases e
theorem mulOk_ok {i j : Int} (h : D.mulOk i j = true) : CMul i j := by
  unfold D.mulOk at h
  simp only [Bool.or_eq_true, Bool.and_eq_true, decide_eq_true_eq] at h
  exact h
theorem small63_ok {i : Int} (h : small63 i = true) : -(2 ^ 63) ≤ i ∧ i < 2 ^ 63 := by
  unfold small63 at h
  simp only [Bool.and_eq_true, decide_eq_true_eq] at h
  exact h
theorem op2_mul (ok : c.Ok) : Op2 c (binaryOp .Mult) D.mul := by
  refine ⟨_, op_mul.or (op_rep.or op_repT), fun g H Hb x y dx dy d Q l hx hy e F => ?_⟩
  unfold D.mul at e
  split at e
  · split at e
    · rename_i hz
      cases e
      exact .inl ⟨_, _, hx.int, hy.int, mulOk_ok hz, F.int l⟩
    · cases e
  · rename_i xs k
    split at e
    · rename_i hz
      cases e
      rw [Bool.and_eq_true] at hz
      obtain ⟨h1, h2⟩ := small63_ok hz.1
      obtain ⟨a, vs, rfl, hs, _, r⟩ := hx.lst l
      refine .inr (.inl ⟨a, k, vs, rfl, hy.int, hs, h1, h2, ?_, F.newL rfl l (r.flatten _)⟩)
      rw [r.length]
      exact of_decide_eq_true hz.2
    · cases e
  · rename_i xs k
    split at e
    · rename_i hz
      cases e
      simp only [Bool.and_eq_true, decide_eq_true_eq, Bool.not_eq_true'] at hz
      obtain ⟨⟨⟨z1, z2⟩, z3⟩, z4⟩ := hz
      obtain ⟨a, vs, rfl, hs, r⟩ := hx.tup l
      have n1 := r.length
      refine .inr (.inr ⟨a, k, vs, rfl, hy.int, ok.hK ▸ hs, ?_, z2, z3, by omega, F.newT rfl l (r.flatten _)⟩)
      intro q
      subst q
      cases r
      cases z1
    · cases e
  · cases e
def BOp.py : BOp → Operator
  | .add => .Add | .sub => .Sub | .mul => .Mult | .fdiv => .FloorDiv | .mod => .Mod | .pow => .Pow
theorem op2 (ok : c.Ok) : ∀ o : BOp, Op2 c (binaryOp o.py) (D.bop o)
  | .add => op2_add ok
  | .sub => op2_sub
  | .mul => op2_mul ok
  | .fdiv => op2_fdiv
  | .mod => op2_mod
  | .pow => op2_pow
end

/-! ### the rules -/
section
variable {c : Ct} {fl : Fls} {e a b : Expr} {md ma mb : Md} {f fa fb : En → M D} {pos : Pos}
theorem JX.toP (h : JX c fl e md f) : JX c fl e .P f := ⟨h.pe.imp fun _ _ _ ⟨g, ρ, S, r⟩ => ⟨g, ρ, S, r.imp fun _ _ _ _ _ k v p => k v p.toP⟩, h.hd⟩
/-- a list of one's own is frozen -/
theorem Post.frz {P : Pm} {g gA : Gh} {H H' : Hp} {v : V} {d : D} (l : Lay P g H') (x : Ext gA H g H') (h : Post P H .O g H' v d) : ∃ g', g'.w = g.w ∧ Lay P g' H' ∧ Ext gA H g' H' ∧ Rp P g'.G g'.am v d := by
  cases d with
  | lst ds =>
    obtain ⟨⟨a, vs, rfl, e3, e4, e5, e6⟩, fr⟩ := h
    have fr' : H a = none := fr ds a rfl rfl
    refine ⟨g.frz a (.lst vs), rfl, l.frz e3 e5, ⟨x.keep, fun b o e => same_frz e4 b o (x.gg b o e), fun b o e => ?_, x.rn, x.am, x.th⟩, .lst upd_same (e6.mono (same_frz e4) fun _ _ e => e)⟩
    · by_cases q : b = a
      · subst q; exact .inr fr'
      · have e' : upd g.G a (.lst vs) b = some o := e
        rw [upd_ne q] at e'; exact x.gn b o e'
  | _ => exact ⟨g, rfl, l, x, h.1⟩
theorem JX.toF (h : JX c fl e .O f) : JX c fl e .F f := ⟨h.pe.imp fun σ H Q ⟨g, ρ, S, r⟩ => ⟨g, ρ, S, by
  cases q : f ρ g.w with
  | ok d w =>
    rw [q] at r
    intro g' H' e l x v p
    obtain ⟨g2, e2, l2, x2, p2⟩ := Post.frz l x p
    exact r g2 H' (e2.trans e) l2 x2 v p2
  | exc k d w => rw [q] at r; exact r
  | bad => rw [q] at r; exact r⟩, h.hd⟩
theorem Post.back {P : Pm} {g g1 g2 : Gh} {H H1 H2 : Hp} {v : V} {d : D} {md : Md} (x : Ext g H g1 H1) (h : Post P H1 md g2 H2 v d) : Post P H md g2 H2 v d := by
  cases md with
  | O =>
    refine ⟨h.1, fun l a e1 e2 => ?_⟩
    cases q : H a with
    | none => rfl
    | some u => exact absurd (h.2 l a e1 e2) (x.th a u q)
  | _ => exact h
theorem post_of_rp {P : Pm} {g : Gh} {H H' : Hp} {v : V} {d : D} (h : Rp P g.G g.am v d) : ∀ md, (md = .O → ∀ l, d ≠ .lst l) → Post P H md g H' v d
  | .F, _ => h
  | .P, _ => .inl h
  | .O, n => post_O (n rfl) h
/-- names -/
def fVar (i : Nat) : En → M D := fun ρ => M.opt (ρ[i]?.join)
theorem join_some {ρ : En} {i : Nat} {d : D} (h : ρ[i]?.join = some d) : ρ[i]? = some (some d) := by
  cases e : ρ[i]? with
  | none => rw [e] at h; cases h
  | some o => rw [e] at h; exact congrArg some h
theorem jx_varF {i : Nat} {x : Str} (hN : c.X.N[i]? = some x) (hv : Vis c.X.env.scope x) (hd : (x == ("__debug__" : Str)) = false) (hcd : (x == ("__classdict__" : Str)) = false) (hf : fl[i]? ≠ some true) : JX c fl (.Name x pos) .F (fVar i) := by
  refine ⟨(pe_var hN hv hd hcd).imp fun σ H Q ⟨g, ρ, S, r⟩ => ?_, rfl⟩
  obtain ⟨d, e, r⟩ := r.opt
  obtain ⟨v, h1, h2⟩ := S.fro i d (join_some e) hf
  exact ⟨v, h1, r.here S.lay v h2⟩
theorem jx_varP {i : Nat} {x : Str} (hN : c.X.N[i]? = some x) (hv : Vis c.X.env.scope x) (hd : (x == ("__debug__" : Str)) = false) (hcd : (x == ("__classdict__" : Str)) = false) : JX c fl (.Name x pos) .P (fVar i) := by
  by_cases hf : fl[i]? = some true
  · refine ⟨(pe_var hN hv hd hcd).imp fun σ H Q ⟨g, ρ, S, r⟩ => ?_, rfl⟩
    obtain ⟨d, e, r⟩ := r.opt
    obtain ⟨v, h1, h2, _⟩ := S.own i d (join_some e) hf
    exact ⟨v, h1, r.here S.lay v h2.toP⟩
  · exact (jx_varF hN hv hd hcd hf).toP
/-- constants -/
theorem jx_int {i : Int} {k : Nat} : JX c fl (.Constant (.int i) k pos) .F fun _ => M.pure (.int i) := ⟨pe_int.imp fun _ _ _ ⟨_, _, S, r⟩ => r.pure S.lay _ (Rp.int i), rfl⟩
theorem jx_str {x : Str} {k : Nat} : JX c fl (.Constant (.str x) k pos) .F fun _ => M.pure (.str x) := ⟨pe_str.imp fun _ _ _ ⟨_, _, S, r⟩ => r.pure S.lay _ (Rp.str x), rfl⟩
theorem jx_bl {b : Bool} {k : Nat} : JX c fl (.Constant (.bool b) k pos) .F fun _ => M.pure (.bl b) := ⟨pe_bl.imp fun _ _ _ ⟨_, _, S, r⟩ => r.pure S.lay _ (Rp.bl b), rfl⟩
theorem jx_non {k : Nat} : JX c fl (.Constant .none k pos) .F fun _ => M.pure .non := ⟨pe_non.imp fun _ _ _ ⟨_, _, S, r⟩ => r.pure S.lay _ Rp.non, rfl⟩
/-- two values, one behind the other, then an operation -/
theorem two_then {r2 : R2} {σ : L2.St} {H : Hp} {Q : VK} {g : Gh} {ρ : En} {α : Type} {k : D → D → M α} {K : α → Gh → Hp → Prop}
    (S : SRel c.P c.g0 c.H0 fl g H σ ρ) (h : Res c.P g H (c.ew σ) ((M.bind (fa ρ) fun x => M.bind (fb ρ) fun y => k x y) g.w) K)
    (hk : ∀ x y dx dy g2 H2, SRel c.P c.g0 c.H0 fl g2 H2 σ ρ → Ext g H g2 H2 → Post c.P H .P g2 H2 x dx → Post c.P H .P g2 H2 y dy → Res c.P g2 H2 (c.ew σ) (k dx dy g2.w) K → r2 x y H2 Q) :
    tOp r2 (tD c fl ma fa) (tD c fl mb fb) σ H Q := by
  refine ⟨g, ρ, S, h.bind.imp fun d1 g1 H1 l1 x1 h1 v p => ?_⟩
  refine ⟨g1, ρ, S.to l1 x1, h1.bind.imp fun d2 g2 H2 l2 x2 h2 u q => ?_⟩
  have p' : Post c.P H .P g2 H2 v d1 := p.toP.ext x2
  have q' : Post c.P H .P g2 H2 u d2 := (q.toP : Post c.P H1 .P g2 H2 u d2)
  exact hk v u d1 d2 g2 H2 (S.to l2 (x1.trans x2)) (x1.trans x2) p' q' h2
/-- operators -/
theorem jx_bin (ok : c.Ok) (o : BOp) (ha : JX c fl a ma fa) (hb : JX c fl b mb fb) : JX c fl (.BinOp a o.py b pos) .O fun ρ => M.bind (fa ρ) fun x => M.bind (fb ρ) fun y => M.opt (D.bop o x y) := by
  obtain ⟨r2, ho, hr⟩ := op2 ok o
  refine ⟨(pe_op ho ha.pe hb.pe).imp fun σ H Q ⟨g, ρ, S, r⟩ => two_then S r fun x y dx dy g2 H2 S2 x2 px py h2 => ?_, rfl⟩
  obtain ⟨d, ed, h2⟩ := h2.opt
  exact hr g2 H2 H x y dx dy d Q S2.lay px py ed fun v g' H' e' l' x' p => h2 g' H' e' l' x' v (p.back x2)
theorem jx_cmp (ok : c.Ok) (o : COp) (ha : JX c fl a ma fa) (hb : JX c fl b mb fb) : JX c fl (.Compare a [o.py] [b] pos) .F fun ρ => M.bind (fa ρ) fun x => M.bind (fb ρ) fun y => M.bind (M.opt (D.cop o x y)) fun z => M.pure (.bl z) := by
  obtain ⟨r2, ho, hr⟩ := cmp2 ok o
  refine ⟨(pe_cmpR ho ha.pe hb.pe (mark_of hb.hd _)).imp fun σ H Q ⟨g, ρ, S, r⟩ => two_then S r fun x y dx dy g2 H2 S2 x2 px py h2 => ?_, rfl⟩
  obtain ⟨z, ez, h2⟩ := h2.bind.opt
  exact hr g2 H2 H x y dx dy z Q S2.lay px py ez ((h2.here S2.lay).pure S2.lay _ (Rp.bl z))
end
end MW
end
section
set_option Elab.async false
set_option autoImplicit false
set_option maxRecDepth 100000
/-! MW5: more expressions: chains, and, or, not, tests, displays, subscripts, slices. -/
namespace MW
open PySem PySem.Spec PyProof.Rows L2

/-- a bool out of a datum -/
def asBl : D → M Bool
  | .bl b => M.pure b
  | _ => M.bad
theorem Res.asBl {P : Pm} {g : Gh} {H : Hp} {E : WD} {d : D} {K : Bool → Gh → Hp → Prop} (h : Res P g H E (asBl d g.w) K) : ∃ b, d = .bl b ∧ Res P g H E (.ok b g.w) K := by
  cases d with
  | bl b => exact ⟨b, rfl, h⟩
  | _ => exact h.elim

section
variable {c : Ct} {fl : Fls} {e a b t : Expr} {es : List Expr} {md ma mb mt : Md} {f fa fb ft : En → M D} {pos p2 : Pos}

/-- a o b o' t -/
theorem jx_chain (ok : c.Ok) (o o' : COp) (ha : JX c fl a ma fa) (hb : JX c fl b mb fb) (ht : JX c fl t mt ft) : JX c fl (.Compare a [o.py, o'.py] [b, t] pos) .F fun ρ =>
    M.bind (fa ρ) fun x => M.bind (fb ρ) fun y => M.bind (M.opt (D.cop o x y)) fun k => if k then M.bind (ft ρ) fun z => M.bind (M.opt (D.cop o' y z)) fun k' => M.pure (.bl k') else M.pure (.bl false) := by
  obtain ⟨r2, ho, hr⟩ := cmp2 ok o
  obtain ⟨r3, ho', hr'⟩ := cmp2 ok o'
  have hm : lastMarks [o.py, o'.py] [b, t] = false := mark_of ht.hd _
  refine ⟨(pe_chain ho ho' ha.pe hb.pe ht.pe hm).imp fun σ H Q ⟨g, ρ, S, r⟩ => ?_, rfl⟩
  refine ⟨g, ρ, S, r.bind.imp fun d1 g1 H1 l1 x1 h1 v p => ?_⟩
  refine ⟨g1, ρ, S.to l1 x1, h1.bind.imp fun d2 g2 H2 l2 x2 h2 u q => ?_⟩
  obtain ⟨k, ek, h3⟩ := h2.bind.opt
  have h3 := h3.here l2
  refine hr g2 H2 H v u d1 d2 k _ l2 (p.toP.ext x2) (q.toP : Post c.P H1 .P g2 H2 u d2) ek ⟨k, rfl, ?_⟩
  cases k with
  | false => exact h3.pure l2 _ (Rp.bl false)
  | true =>
    refine ⟨g2, ρ, (S.to l1 x1).to l2 x2, (Res.bind h3).imp fun d4 g4 H4 l4 x4 h4 z pz => ?_⟩
    obtain ⟨k', ek', h5⟩ := h4.bind.opt
    exact hr' g4 H4 H1 u z d2 d4 k' _ l4 ((q.toP : Post c.P H1 .P g2 H2 u d2).ext x4) (pz.toP : Post c.P H2 .P g4 H4 z d4) ek' ((h5.here l4).pure l4 _ (Rp.bl k'))

/-! ### and, or, not, as values -/
theorem jx_one {op : BoolOp} (ha : JX c fl a ma fa) : JX c fl (.BoolOp op [a] pos) ma fa := ⟨pe_one ha.pe, rfl⟩
theorem jx_and (ha : JX c fl a ma fa) (hb : JX c fl (.BoolOp .And (b :: es) pos) mb fb) : JX c fl (.BoolOp .And (a :: b :: es) pos) .F fun ρ => M.bind (fa ρ) fun x => M.bind (asBl x) fun k => if k then M.bind (fb ρ) fun y => M.bind (asBl y) fun k' => M.pure (.bl k') else M.pure (.bl false) := by
  refine ⟨(pe_and ha.pe hb.pe).imp fun σ H Q ⟨g, ρ, S, r⟩ => ⟨g, ρ, S, r.bind.imp fun d1 g1 H1 l1 x1 h1 v p => ?_⟩, rfl⟩
  obtain ⟨k, rfl, h2⟩ := h1.bind.asBl
  have h2 := h2.here l1
  refine ⟨k, (p.toP : Post c.P H .P g1 H1 v _).bl, ?_⟩
  cases k with
  | false => exact h2.pure l1 _ (Rp.bl false)
  | true =>
    refine ⟨g1, ρ, S.to l1 x1, (Res.bind h2).imp fun d3 g3 H3 l3 x3 h3 z pz => ?_⟩
    obtain ⟨k', rfl, h4⟩ := h3.bind.asBl
    rw [(pz.toP : Post c.P H1 .P g3 H3 z _).bl]
    exact (h4.here l3).pure l3 _ (Rp.bl k')
theorem jx_or (ha : JX c fl a ma fa) (hb : JX c fl (.BoolOp .Or (b :: es) pos) mb fb) : JX c fl (.BoolOp .Or (a :: b :: es) pos) .F fun ρ => M.bind (fa ρ) fun x => M.bind (asBl x) fun k => if k then M.pure (.bl true) else M.bind (fb ρ) fun y => M.bind (asBl y) fun k' => M.pure (.bl k') := by
  refine ⟨(pe_or ha.pe hb.pe).imp fun σ H Q ⟨g, ρ, S, r⟩ => ⟨g, ρ, S, r.bind.imp fun d1 g1 H1 l1 x1 h1 v p => ?_⟩, rfl⟩
  obtain ⟨k, rfl, h2⟩ := h1.bind.asBl
  have h2 := h2.here l1
  refine ⟨k, (p.toP : Post c.P H .P g1 H1 v _).bl, ?_⟩
  cases k with
  | true => exact h2.pure l1 _ (Rp.bl true)
  | false =>
    refine ⟨g1, ρ, S.to l1 x1, (Res.bind h2).imp fun d3 g3 H3 l3 x3 h3 z pz => ?_⟩
    obtain ⟨k', rfl, h4⟩ := h3.bind.asBl
    rw [(pz.toP : Post c.P H1 .P g3 H3 z _).bl]
    exact (h4.here l3).pure l3 _ (Rp.bl k')
theorem jx_not (ha : JX c fl a ma fa) : JX c fl (.UnaryOp .Not a pos) .F fun ρ => M.bind (fa ρ) fun x => M.bind (asBl x) fun k => M.pure (.bl !k) := by
  refine ⟨(pe_not ha.pe).imp fun σ H Q ⟨g, ρ, S, r⟩ => ⟨g, ρ, S, r.bind.imp fun d1 g1 H1 l1 x1 h1 v p => ?_⟩, rfl⟩
  obtain ⟨k, rfl, h2⟩ := h1.bind.asBl
  exact ⟨k, (p.toP : Post c.P H .P g1 H1 v _).bl, (h2.here l1).pure l1 _ (Rp.bl _)⟩

/-! ### tests -/
structure JT (c : Ct) (fl : Fls) (e : Expr) (f : En → M Bool) : Prop where
  pt : PT c.X e (tDT c fl f)
/-- heads whose test is the truth of their value -/
def valHead : Expr → Bool
  | .UnaryOp _ _ _ => false
  | .BoolOp _ _ _ => false
  | .IfExp _ _ _ _ => false
  | .Compare _ _ _ _ => false
  | _ => true
theorem test_of {e : Expr} (h : valHead e = true) (env : PySem.Env) : ∀ whole, isTrue e env whole = (do let v ← whole; standAt e.pos; holding [v] (truthy v)) := by
  intro whole
  cases e <;> first | rfl | exact absurd h (by simp [valHead])
theorem tru_of {P : Pm} {g : Gh} {H Hb : Hp} {v : V} {d : D} {k : Bool} (l : Lay P g H) (p : Post P Hb .P g H v d) (e : D.truth d = some k) : TruV P.K v H k := by
  cases d with
  | non => cases e; rw [p.non]; rfl
  | bl b => cases e; rw [p.bl]; rfl
  | int i => cases e; rw [p.int]; rfl
  | tup ds =>
    cases e
    obtain ⟨a, vs, rfl, hs, r⟩ := p.tup l
    refine .inr (.inl ⟨vs, hs, ?_⟩)
    have := r.length
    cases ds <;> cases vs <;> simp_all
  | lst ds =>
    cases e
    obtain ⟨a, vs, rfl, hs, _, r⟩ := p.lst l
    refine .inl ⟨vs, SqL.of hs, ?_⟩
    have := r.length
    cases ds <;> cases vs <;> simp_all
  | _ => cases e
theorem jt_val (ok : c.Ok) (ha : JX c fl a ma fa) (h : valHead a = true) : JT c fl a fun ρ => M.bind (fa ρ) fun x => M.opt (D.truth x) := by
  refine ⟨(pt_truth ha.pe (test_of h _)).imp fun σ H Q ⟨g, ρ, S, r⟩ => ⟨g, ρ, S, r.bind.imp fun d1 g1 H1 l1 x1 h1 v p => ?_⟩⟩
  obtain ⟨k, ek, h2⟩ := h1.opt
  exact ⟨k, ok.hK ▸ tru_of l1 (p.toP : Post c.P H .P g1 H1 v _) ek, h2.here l1⟩
theorem jt_cmp (ok : c.Ok) (o : COp) (ha : JX c fl a ma fa) (hb : JX c fl b mb fb) : JT c fl (.Compare a [o.py] [b] pos) fun ρ => M.bind (fa ρ) fun x => M.bind (fb ρ) fun y => M.opt (D.cop o x y) := by
  obtain ⟨r2, ho, hr⟩ := cmp2 ok o
  refine ⟨(pt_cmpR ho ha.pe hb.pe (mark_of hb.hd _)).imp fun σ H Q ⟨g, ρ, S, r⟩ => two_then S r fun x y dx dy g2 H2 S2 x2 px py h2 => ?_⟩
  obtain ⟨z, ez, h2⟩ := h2.opt
  exact hr g2 H2 H x y dx dy z _ S2.lay px py ez ⟨z, rfl, h2.here S2.lay⟩
theorem jt_chain (ok : c.Ok) (o o' : COp) (ha : JX c fl a ma fa) (hb : JX c fl b mb fb) (ht : JX c fl t mt ft) : JT c fl (.Compare a [o.py, o'.py] [b, t] pos) fun ρ =>
    M.bind (fa ρ) fun x => M.bind (fb ρ) fun y => M.bind (M.opt (D.cop o x y)) fun k => if k then M.bind (ft ρ) fun z => M.opt (D.cop o' y z) else M.pure false := by
  obtain ⟨r2, ho, hr⟩ := cmp2 ok o
  obtain ⟨r3, ho', hr'⟩ := cmp2 ok o'
  have hm : lastMarks [o.py, o'.py] [b, t] = false := mark_of ht.hd _
  refine ⟨(pt_chain ho ho' ha.pe hb.pe ht.pe hm).imp fun σ H Q ⟨g, ρ, S, r⟩ => ?_⟩
  refine ⟨g, ρ, S, r.bind.imp fun d1 g1 H1 l1 x1 h1 v p => ?_⟩
  refine ⟨g1, ρ, S.to l1 x1, h1.bind.imp fun d2 g2 H2 l2 x2 h2 u q => ?_⟩
  obtain ⟨k, ek, h3⟩ := h2.bind.opt
  have h3 := h3.here l2
  refine hr g2 H2 H v u d1 d2 k _ l2 (p.toP.ext x2) (q.toP : Post c.P H1 .P g2 H2 u d2) ek ⟨k, rfl, ?_⟩
  cases k with
  | false => exact ⟨false, rfl, h3.pure l2⟩
  | true =>
    refine ⟨g2, ρ, (S.to l1 x1).to l2 x2, (Res.bind h3).imp fun d4 g4 H4 l4 x4 h4 z pz => ?_⟩
    obtain ⟨k', ek', h5⟩ := h4.opt
    exact hr' g4 H4 H1 u z d2 d4 k' _ l4 ((q.toP : Post c.P H1 .P g2 H2 u d2).ext x4) (pz.toP : Post c.P H2 .P g4 H4 z d4) ek' ⟨k', rfl, h5.here l4⟩
/-- a test whatever its 'whole' is -/
structure JW (c : Ct) (fl : Fls) (e : Expr) (f : En → M Bool) : Prop where
  pw : PW c.X e (tDT c fl f)
variable {ga gb : En → M Bool}
theorem _root_.L2.PW.imp {X : Cx} {e : Expr} {t t' : TT} (h : PW X e t) (i : ∀ σ H Q, t' σ H Q → t σ H Q) : PW X e t' := ⟨fun whole pins s σ H Q I h' => h.run whole pins s σ H Q I (i σ H Q h')⟩
theorem jw_and1 (ha : JT c fl a ga) : JW c fl (.BoolOp .And [a] pos) ga := ⟨pw_and1 ha.pt⟩
theorem jw_or1 (ha : JT c fl a ga) : JW c fl (.BoolOp .Or [a] pos) ga := ⟨pw_or1 ha.pt⟩
theorem jw_and (ha : JT c fl a ga) (hb : JW c fl (.BoolOp .And (b :: es) pos) gb) : JW c fl (.BoolOp .And (a :: b :: es) pos) fun ρ => M.bind (ga ρ) fun k => if k then gb ρ else M.pure false := by
  refine ⟨(pw_and ha.pt hb.pw).imp fun σ H Q ⟨g, ρ, S, r⟩ => ⟨g, ρ, S, r.bind.imp fun k g1 H1 l1 x1 h1 => ?_⟩⟩
  cases k with
  | true => exact ⟨g1, ρ, S.to l1 x1, h1⟩
  | false => exact h1.pure l1
theorem jw_or (ha : JT c fl a ga) (hb : JW c fl (.BoolOp .Or (b :: es) pos) gb) : JW c fl (.BoolOp .Or (a :: b :: es) pos) fun ρ => M.bind (ga ρ) fun k => if k then M.pure true else gb ρ := by
  refine ⟨(pw_or ha.pt hb.pw).imp fun σ H Q ⟨g, ρ, S, r⟩ => ⟨g, ρ, S, r.bind.imp fun k g1 H1 l1 x1 h1 => ?_⟩⟩
  cases k with
  | false => exact ⟨g1, ρ, S.to l1 x1, h1⟩
  | true => exact h1.pure l1
theorem JW.jt (h : JW c fl e ga) : JT c fl e ga := ⟨h.pw.pt⟩
theorem jt_not (ha : JT c fl a ga) : JT c fl (.UnaryOp .Not a pos) fun ρ => M.bind (ga ρ) fun k => M.pure !k :=
  ⟨(pt_not ha.pt).imp fun _ _ _ ⟨g, ρ, S, r⟩ => ⟨g, ρ, S, r.bind.imp fun _ _ _ l1 _ h1 => h1.pure l1⟩⟩
/-- a if t else b, both in one mode -/
theorem jx_ite (ht : JT c fl t ga) (ha : JX c fl a md fa) (hb : JX c fl b md fb) : JX c fl (.IfExp t a b pos) md fun ρ => M.bind (ga ρ) fun k => if k then fa ρ else fb ρ := by
  refine ⟨(pe_ifExp ht.pt ha.pe hb.pe).imp fun σ H Q ⟨g, ρ, S, r⟩ => ⟨g, ρ, S, r.bind.imp fun k g1 H1 l1 x1 h1 => ?_⟩, rfl⟩
  cases k with
  | true => exact ⟨g1, ρ, S.to l1 x1, h1.imp fun _ _ _ _ _ h v p => h v (p.back x1)⟩
  | false => exact ⟨g1, ρ, S.to l1 x1, h1.imp fun _ _ _ _ _ h v p => h v (p.back x1)⟩
/-- -a -/
theorem jx_neg (ha : JX c fl a ma fa) : JX c fl (.UnaryOp .USub a pos) .F fun ρ => M.bind (fa ρ) fun x => M.opt (D.neg x) := by
  refine ⟨(pe_un un_neg ha.pe).imp fun σ H Q ⟨g, ρ, S, r⟩ => ⟨g, ρ, S, r.bind.imp fun d1 g1 H1 l1 x1 h1 v p => ?_⟩, rfl⟩
  obtain ⟨d, ed, h2⟩ := h1.opt
  cases d1 with
  | int i => cases ed; exact ⟨i, (p.toP : Post c.P H .P g1 H1 v _).int, h2.here l1 _ (Rp.int _)⟩
  | _ => cases ed
/-- is None, is not None -/
def isNon : D → Bool
  | .non => true
  | _ => false
theorem isNon_of {P : Pm} {g : Gh} {H Hb : Hp} {v : V} {d : D} (p : Post P Hb .P g H v d) : decide (v = .non) = isNon d := by
  rcases p with p | ⟨a, vs, ds, rfl, rfl, _⟩
  · cases p <;> rfl
  · rfl
theorem jx_isN {k : Nat} (ha : JX c fl a ma fa) : JX c fl (.Compare a [.Is] [.Constant .none k p2] pos) .F fun ρ => M.bind (fa ρ) fun x => M.pure (.bl (isNon x)) := by
  refine ⟨(pe_cmp (pc_isN ha.pe)).imp fun σ H Q ⟨g, ρ, S, r⟩ => ⟨g, ρ, S, r.bind.imp fun d1 g1 H1 l1 x1 h1 v p => ?_⟩, rfl⟩
  show Q (.bl (decide (v = .non))) H1
  rw [isNon_of (p.toP : Post c.P H .P g1 H1 v d1)]
  exact h1.pure l1 _ (Rp.bl _)
theorem jx_notN {k : Nat} (ha : JX c fl a ma fa) : JX c fl (.Compare a [.IsNot] [.Constant .none k p2] pos) .F fun ρ => M.bind (fa ρ) fun x => M.pure (.bl !(isNon x)) := by
  refine ⟨(pe_cmp (pc_notN ha.pe)).imp fun σ H Q ⟨g, ρ, S, r⟩ => ⟨g, ρ, S, r.bind.imp fun d1 g1 H1 l1 x1 h1 v p => ?_⟩, rfl⟩
  show Q (.bl (!decide (v = .non))) H1
  rw [isNon_of (p.toP : Post c.P H .P g1 H1 v d1)]
  exact h1.pure l1 _ (Rp.bl _)
theorem jt_isN {k : Nat} (ha : JX c fl a ma fa) : JT c fl (.Compare a [.Is] [.Constant .none k p2] pos) fun ρ => M.bind (fa ρ) fun x => M.pure (isNon x) := by
  refine ⟨(pt_cmp (pc_isN ha.pe)).imp fun σ H Q ⟨g, ρ, S, r⟩ => ⟨g, ρ, S, r.bind.imp fun d1 g1 H1 l1 x1 h1 v p => ?_⟩⟩
  exact ⟨_, rfl, by rw [isNon_of (p.toP : Post c.P H .P g1 H1 v d1)]; exact h1.pure l1⟩
theorem jt_notN {k : Nat} (ha : JX c fl a ma fa) : JT c fl (.Compare a [.IsNot] [.Constant .none k p2] pos) fun ρ => M.bind (fa ρ) fun x => M.pure !(isNon x) := by
  refine ⟨(pt_cmp (pc_notN ha.pe)).imp fun σ H Q ⟨g, ρ, S, r⟩ => ⟨g, ρ, S, r.bind.imp fun d1 g1 H1 l1 x1 h1 v p => ?_⟩⟩
  exact ⟨_, rfl, by rw [isNon_of (p.toP : Post c.P H .P g1 H1 v d1)]; exact h1.pure l1⟩

/-! ### rows of values, frozen -/
def tDA (c : Ct) (fl : Fls) (f : En → M (List D)) : TA := fun σ H Q =>
  ∃ g ρ, SRel c.P c.g0 c.H0 fl g H σ ρ ∧ Res c.P g H (c.ew σ) (f ρ g.w) fun ds g' H' => ∀ vs, Rps c.P g'.G g'.am vs ds → Q vs H'
structure JA (c : Ct) (fl : Fls) (es : List Expr) (f : En → M (List D)) : Prop where
  pa : PA c.X es (tDA c fl f)
theorem _root_.L2.PA.imp {X : Cx} {es : List Expr} {t t' : TA} (h : PA X es t) (i : ∀ σ H Q, t' σ H Q → t σ H Q) : PA X es t' := ⟨fun p pins s σ H Q I h' => h.run p pins s σ H Q I (i σ H Q h')⟩
variable {fs : En → M (List D)}
theorem ja_nil : JA c fl [] fun _ => M.pure [] := ⟨pa_nil.imp fun _ _ _ ⟨_, _, S, r⟩ => r.pure S.lay _ .nil⟩
theorem ja_cons (ha : JX c fl a .F fa) (hs : JA c fl es fs) : JA c fl (a :: es) fun ρ => M.bind (fa ρ) fun x => M.bind (fs ρ) fun xs => M.pure (x :: xs) := by
  refine ⟨(pa_cons ha.pe hs.pa (star_of ha.hd _ _)).imp fun σ H Q ⟨g, ρ, S, r⟩ => ⟨g, ρ, S, r.bind.imp fun d1 g1 H1 l1 x1 h1 v p => ⟨g1, ρ, S.to l1 x1, h1.bind.imp fun ds g2 H2 l2 x2 h2 vs q => ?_⟩⟩⟩
  have p' : Rp c.P g1.G g1.am v d1 := p
  exact h2.pure l2 _ (.cons (p'.ext x2) q)
/-- displays -/
theorem jx_tup {k : Nat} (hs : JA c fl es fs) : JX c fl (.Tuple es k pos) .F fun ρ => M.bind (fs ρ) fun xs => if fits xs.length then M.pure (.tup xs) else M.bad := by
  refine ⟨(pe_tup hs.pa).imp fun σ H Q ⟨g, ρ, S, r⟩ => ⟨g, ρ, S, r.bind.imp fun ds g1 H1 l1 x1 h1 vs q => ?_⟩, rfl⟩
  split at h1
  · rename_i hz
    refine ⟨by rw [q.length]; exact of_decide_eq_true hz, fun p n => ?_⟩
    exact h1 (g1.frz p (.tup vs)) _ rfl (l1.newF n) (Ext.newF l1 n) _ (rp_newT l1 n q)
  · exact h1.elim
theorem jx_lst (hs : JA c fl es fs) : JX c fl (.List es pos) .O fun ρ => M.bind (fs ρ) fun xs => if fits xs.length then M.pure (.lst xs) else M.bad := by
  refine ⟨(pe_lst hs.pa).imp fun σ H Q ⟨g, ρ, S, r⟩ => ⟨g, ρ, S, r.bind.imp fun ds g1 H1 l1 x1 h1 vs q => ?_⟩, rfl⟩
  split at h1
  · rename_i hz
    refine ⟨by rw [q.length]; exact of_decide_eq_true hz, fun p n => ?_⟩
    exact h1 g1 _ rfl (l1.new n) (Ext.new n) _ ((post_newL l1 n q).back x1)
  · exact h1.elim
theorem jx_dict0 : JX c fl (.Dict [] [] pos) .F fun _ => M.pure (.dic []) := by
  refine ⟨(pe_dnewK).imp fun σ H Q ⟨g, ρ, S, r⟩ => fun p n => ?_, rfl⟩
  exact r (g.frz p (.dK [])) _ rfl (S.lay.newF n) (Ext.newF S.lay n) _ (Rp.dic0 upd_same)

/-! ### subscripts -/
theorem atI_rel {P : Pm} {G : Hp} {am : Nat → Option Addr} {vs : List V} {ds : List D} {i : Int} {d : D} (r : Rps P G am vs ds) (h : atI ds i = some d) : ∃ v, atI vs i = some v ∧ Rp P G am v d := by
  unfold atI at h ⊢
  rw [r.length]
  cases e : ixN ds.length i with
  | none => rw [e] at h; cases h
  | some j =>
    rw [e] at h
    exact r.get h
theorem jx_ix (ok : c.Ok) (ha : JX c fl a ma fa) (hb : JX c fl b mb fb) : JX c fl (.Subscript a b pos) .F fun ρ => M.bind (fa ρ) fun x => M.bind (fb ρ) fun y => M.opt (D.ix x y) := by
  refine ⟨(pe_ix ix_seq ha.pe hb.pe (ix_of hb.hd)).imp fun σ H Q ⟨g, ρ, S, r⟩ => two_then S r fun x y dx dy g2 H2 S2 x2 px py h2 => ?_, rfl⟩
  obtain ⟨d, ed, h3⟩ := h2.opt
  have l := S2.lay
  have fin := h3.here l
  clear h2 h3
  unfold D.ix at ed
  split at ed
  · obtain ⟨p, vs, rfl, hs, _, r'⟩ := px.lst l
    obtain ⟨v, hv, rv⟩ := atI_rel r' ed
    exact .inl ⟨p, vs, _, v, rfl, py.int, SqL.of hs, hv, fin _ rv⟩
  · obtain ⟨p, vs, rfl, hs, r'⟩ := px.tup l
    obtain ⟨v, hv, rv⟩ := atI_rel r' ed
    exact .inr (.inl ⟨p, vs, _, v, rfl, py.int, ok.hK ▸ hs, hv, fin _ rv⟩)
  · split at ed
    · rename_i hz
      obtain ⟨k, hk, rfl⟩ := Option.map_eq_some_iff.mp ed
      exact .inr (.inr ⟨_, _, k, px.str, py.int, of_decide_eq_true hz, hk, fin _ (Rp.str _)⟩)
    · cases ed
  · cases ed
/-! ### slices -/
structure JO (c : Ct) (fl : Fls) (e : Option Expr) (f : En → M (Option Int)) : Prop where
  po : PO c.X e fun σ H Q => ∃ g ρ, SRel c.P c.g0 c.H0 fl g H σ ρ ∧ Res c.P g H (c.ew σ) (f ρ g.w) fun o _ H' => Q o H'
theorem jo_none : JO c fl none fun _ => M.pure none := ⟨⟨fun pins s σ H Q I ⟨_, _, S, r⟩ => po_none.run pins s σ H Q I (r.pure S.lay)⟩⟩
theorem jo_some (ha : JX c fl a ma fa) : JO c fl (some a) fun ρ => M.bind (fa ρ) fun x => M.opt (D.asInt x) := by
  refine ⟨⟨fun pins s σ H Q I ⟨g, ρ, S, r⟩ => (po_some ha.pe).run pins s σ H Q I ⟨g, ρ, S, r.bind.imp fun d1 g1 H1 l1 x1 h1 v p => ?_⟩⟩⟩
  obtain ⟨o, eo, h2⟩ := h1.opt
  cases d1 with
  | int i => cases eo; exact ⟨i, (p.toP : Post c.P H .P g1 H1 v _).int, h2.here l1⟩
  | _ => cases eo
theorem Rps.cut {P : Pm} {G : Hp} {am : Nat → Option Addr} {vs : List V} {ds : List D} (r : Rps P G am vs ds) (lo hi : Option Int) : Rps P G am (cutV vs lo hi) (D.cut ds lo hi) := by
  unfold cutV D.cut
  rw [r.length]
  exact (r.drop _).take _
theorem cut_whole {ds : List D} {lo hi : Option Int} (h : HT.sIx ds.length 0 lo = 0 ∧ HT.sIx ds.length ds.length hi = ds.length) : D.cut ds lo hi = ds := by
  unfold D.cut
  rw [h.1, h.2]; simp
variable {lo hi : Option Expr} {flo fhi : En → M (Option Int)}
theorem jx_slice (ok : c.Ok) (ha : JX c fl a ma fa) (hl : JO c fl lo flo) (hh : JO c fl hi fhi) : JX c fl (.Subscript a (.Slice lo hi none p2) pos) .O fun ρ => M.bind (fa ρ) fun x => M.bind (flo ρ) fun l => M.bind (fhi ρ) fun h => M.opt (D.slice x l h) := by
  refine ⟨(pe_slice (sl_list.or sl_tupA) ha.pe hl.po hh.po).imp fun σ H Q ⟨g, ρ, S, r⟩ => ⟨g, ρ, S, r.bind.imp fun d1 g1 H1 l1 x1 h1 v p => ⟨g1, ρ, S.to l1 x1, h1.bind.imp fun o1 g2 H2 l2 x2 h2 => ⟨g2, ρ, (S.to l1 x1).to l2 x2, h2.bind.imp fun o2 g3 H3 l3 x3 h3 => ?_⟩⟩⟩, rfl⟩
  have p3 : Post c.P H .P g3 H3 v d1 := (p.toP.ext x2).ext x3
  have x13 : Ext g H g3 H3 := (x1.trans x2).trans x3
  obtain ⟨d, ed, h4⟩ := h3.opt
  have fin : Fin c g3 H3 d Q := fun v g' H' e' l' x' p => h4 g' H' e' l' x' v (p.back x13)
  clear h3 h4
  unfold D.slice at ed
  split at ed
  · cases ed
    obtain ⟨pa, vs, rfl, hs, _, r'⟩ := p3.lst l3
    exact .inl ⟨pa, vs, rfl, SqL.of hs, fin.newL rfl l3 (r'.cut _ _)⟩
  · cases ed
    obtain ⟨pa, vs, rfl, hs, r'⟩ := p3.tup l3
    refine .inr ⟨pa, vs, rfl, ok.hK ▸ hs, fun z => ?_, fun _ => fin.newT rfl l3 (r'.cut _ _)⟩
    rw [r'.length] at z
    rw [cut_whole z] at fin
    exact fin.old l3 (by intro l e; cases e) (p3.nl (by intro l e; cases e))
  · cases ed
end
end MW
end
section
set_option Elab.async false
set_option autoImplicit false
set_option maxRecDepth 100000
/-! MW6: the promise of a def by data; calls of defs. -/
namespace MW
open PySem PySem.Spec PyProof.Rows L2

/-- a def keeps a promise, wherever no repr is running -/
structure FnG (Pg : Program) (wd : World) (K : PySem.W.Frag) (mg : Str → Option Value) (base : Heap) (k : Nat) (f : Addr) (fd : FuncData) (ps : List Str) (sp : Sp) : Prop where
  len : ∀ vs H Q E, sp vs H Q E → vs.length = ps.length
  run : ∀ (A : Around) (outer : List PySem.Env) (s : Shared) (H : Hp) (args : Args) (us : List Value) (vs : List V) (Q : VK) (E : XK), Room k A → A.guards = some [] → Env0 Pg wd K mg base A outer s H →
    BindsTo s fd args (ps.zip us) → Vals vs us → sp vs H Q E → codeAny (model Pg wd) A (.call (.ref f) args) (CR (L2.CX Pg wd) outer Pg wd H s Q E) s
theorem FnG.mono {Pg : Program} {wd : World} {K : PySem.W.Frag} {mg : Str → Option Value} {base : Heap} {j k : Nat} {f : Addr} {fd : FuncData} {ps : List Str} {sp : Sp} (F : FnG Pg wd K mg base j f fd ps sp) (h : j ≤ k) : FnG Pg wd K mg base k f fd ps sp :=
  ⟨F.len, fun A outer s H args us vs Q E r => F.run A outer s H args us vs Q E (r.mono h)⟩

/-- what is wanted of an error that leaves, by data -/
def wdE (P : Pm) (E : XK) : WD := fun k d g' H' => ∀ C n dx, P.exc k = some (C, n) → XDat P g'.G g'.am n dx d → E (.ref C) dx H'
/-- the promise by data -/
def spM (P : Pm) (m : List D → M D) : Sp := fun vs H Q E =>
  ∃ g ds, Lay P g H ∧ Rps P g.G g.am vs ds ∧ Res P g H (wdE P E) (m ds g.w) fun d g' H' => ∀ v, Rp P g'.G g'.am v d → Q v H'

/-- a def of the module, by data, to be called here -/
structure FnOf (c : Ct) (x : Str) (m : List D → M D) : Prop where
  ex : ∃ (f : Addr) (fd : FuncData) (ps : List Str) (k : Nat), FnG c.X.prog c.X.w c.X.K c.X.mg c.X.base k f fd ps (spM c.P m) ∧ Room k c.X.A ∧ c.X.mg x = some (.ref f) ∧ PySem.W.keepIn c.X.K (.ref f) = true ∧ Binds c.X.K fd ps []
  dbg : (x == ("__debug__" : Str)) = false

theorem noStar {es : List Expr} (h : es.all okHead = true) (env : PySem.Env) (pos : Pos) : (backTo pos (starEach es env)).any (·.1) = false := by
  induction es with
  | nil => rfl
  | cons e es ih =>
    rw [List.all_cons, Bool.and_eq_true] at h
    rw [star_of h.1]
    simpa [backTo] using ih h.2

section
variable {c : Ct} {fl : Fls} {e : Expr} {es : List Expr} {fs : En → M (List D)} {pos p : Pos}
theorem jx_call (ok : c.Ok) {x : Str} {m : List D → M D} (F : FnOf c x m) (hg : Gl c.X x) (h : (e :: es).all okHead = true) (ha : JA c fl (e :: es) fs) : JX c fl (.Call (.Name x p) (e :: es) [] pos) .F fun ρ => M.bind (fs ρ) m := by
  obtain ⟨f, fd, ps, k, G, hr, hm, hk, hb⟩ := F.ex
  rw [List.all_cons, Bool.and_eq_true] at h
  refine ⟨⟨fun pins s σ H Q I ⟨g, ρ, S, r⟩ => ?_⟩, rfl⟩
  refine wpAny_Call_Name_kw (ld_glob I hg hm ?_ F.dbg)
  have ha' := ha.pa.run pos pins s σ H (fun vs H1 => ∃ g1 ds, Lay c.P g1 H1 ∧ Rps c.P g1.G g1.am vs ds ∧ Ext g H g1 H1 ∧ Res c.P g1 H1 (c.ew σ) (m ds g1.w) fun d g' H' => ∀ v, Post c.P H .F g' H' v d → Q v H') I
    ⟨g, ρ, S, r.bind.imp fun ds g1 H1 l1 x1 h1 vs q => ⟨g1, ds, l1, q, x1, h1⟩⟩
  refine PySem.W.callWith_K (h₀ := c.X.base) I.ok.mod.kin hk (thn ha' fun us s1 ⟨vs, H1, I1, rv, g1, ds, l1, q, x1, r1⟩ => ⟨I1.kIn, ?_⟩) (star_of h.1 _ _) (noStar h.2 _ _)
  have hsp : spM c.P m vs H1 Q fun cls d H' => c.W cls d σ H' := ⟨g1, ds, l1, q, r1⟩
  have hl : (us ++ []).length = ps.length := by rw [List.append_nil, ← rv.length]; exact G.len _ _ _ _ hsp
  have hbt := hb s1 us I1.kIn hl
  rw [List.append_nil] at hbt
  refine wpAny_call (codeAny_mono (G.run c.X.A c.X.stack s1 H1 ⟨us, []⟩ us vs Q _ hr ok.hgd I1.env0 hbt rv hsp) fun res s2 hq => ?_)
  cases res with
  | error u => exact ok.tk u s2 (XE.of_call I1 (fun _ _ _ z => z) hq)
  | ok fw =>
    cases fw with
    | ret u => exact I1.after hq
    | next => exact hq.elim
    | brk => exact hq.elim
    | cont => exact hq.elim
end
end MW
end
section
set_option Elab.async false
set_option autoImplicit false
set_option maxRecDepth 100000
/-! MW7: calls of built-ins by data. -/
namespace MW
open PySem PySem.Spec PyProof.Rows L2

/-- values that may be looked at -/
inductive Pss (P : Pm) (g : Gh) (H : Hp) : List V → List D → Prop
  | nil : Pss P g H [] []
  | cons {v : V} {vs : List V} {d : D} {ds : List D} : Post P H .P g H v d → Pss P g H vs ds → Pss P g H (v :: vs) (d :: ds)
theorem Pss.ext {P : Pm} {g g' : Gh} {H H' : Hp} (x : Ext g H g' H') : ∀ {vs : List V} {ds : List D}, Pss P g H vs ds → Pss P g' H' vs ds
  | _, _, .nil => .nil
  | _, _, .cons h r => .cons (Post.ext x h) (Pss.ext x r)
theorem Pss.one {P : Pm} {g : Gh} {H : Hp} {vs : List V} {d : D} (h : Pss P g H vs [d]) : ∃ v, vs = [v] ∧ Post P H .P g H v d := by
  cases h with
  | cons p r => cases r; exact ⟨_, rfl, p⟩
theorem Pss.two {P : Pm} {g : Gh} {H : Hp} {vs : List V} {d e : D} (h : Pss P g H vs [d, e]) : ∃ v u, vs = [v, u] ∧ Post P H .P g H v d ∧ Post P H .P g H u e := by
  cases h with
  | cons p r =>
    obtain ⟨u, rfl, q⟩ := r.one
    exact ⟨_, _, rfl, p, q⟩
def tDL (c : Ct) (fl : Fls) (f : En → M (List D)) : TA := fun σ H Q =>
  ∃ g ρ, SRel c.P c.g0 c.H0 fl g H σ ρ ∧ Res c.P g H (c.ew σ) (f ρ g.w) fun ds g' H' => ∀ vs, Pss c.P g' H' vs ds → Q vs H'
structure JL (c : Ct) (fl : Fls) (es : List Expr) (f : En → M (List D)) : Prop where
  pa : PA c.X es (tDL c fl f)
section
variable {c : Ct} {fl : Fls} {e a : Expr} {es : List Expr} {ma : Md} {fa : En → M D} {fs : En → M (List D)} {pos p : Pos}
theorem jl_nil : JL c fl [] fun _ => M.pure [] := ⟨pa_nil.imp fun _ _ _ ⟨_, _, S, r⟩ => r.pure S.lay _ .nil⟩
theorem jl_cons (ha : JX c fl a ma fa) (hs : JL c fl es fs) : JL c fl (a :: es) fun ρ => M.bind (fa ρ) fun x => M.bind (fs ρ) fun xs => M.pure (x :: xs) := by
  refine ⟨(pa_cons ha.pe hs.pa (star_of ha.hd _ _)).imp fun σ H Q ⟨g, ρ, S, r⟩ => ⟨g, ρ, S, r.bind.imp fun d1 g1 H1 l1 x1 h1 v p => ⟨g1, ρ, S.to l1 x1, h1.bind.imp fun ds g2 H2 l2 x2 h2 vs q => ?_⟩⟩⟩
  exact h2.pure l2 _ (.cons ((p.toP : Post c.P H .P g1 H1 v d1).ext x2) q)

/-- a call of a known value, by data -/
def CallM (c : Ct) (fv : Value) (op : List D → Option D) : Prop :=
  ∃ r, CallR c.X fv r ∧ ∀ (g : Gh) (H : Hp) (vs : List V) (ds : List D) (d : D) (Q : VK), Lay c.P g H → Pss c.P g H vs ds → op ds = some d → Fin c g H d Q → r vs H Q
theorem jx_callB {x : Str} {id : String} {op : List D → Option D} (hc : CallM c (.builtin id) op) (hg : Gl c.X x) (hm : c.X.mg x = none) (hv : bootBuiltins x = some (.builtin id)) (hn : x ≠ "__name__") (hd : (x == ("__debug__" : Str)) = false)
    (h : (e :: es).all okHead = true) (ha : JL c fl (e :: es) fs) : JX c fl (.Call (.Name x p) (e :: es) [] pos) .O fun ρ => M.bind (fs ρ) fun ds => M.opt (op ds) := by
  obtain ⟨r2, hr, hk⟩ := hc
  rw [List.all_cons, Bool.and_eq_true] at h
  refine ⟨(pe_callB hr hg hm hv ha.pa hn hd (star_of h.1 _ _) (noStar h.2 _ _)).imp fun σ H Q ⟨g, ρ, S, r⟩ => ⟨g, ρ, S, r.bind.imp fun ds g1 H1 l1 x1 h1 vs q => ?_⟩, rfl⟩
  obtain ⟨d, ed, h2⟩ := h1.opt
  exact hk g1 H1 vs ds d Q l1 q ed fun v g' H' e' l' x' p => h2 g' H' e' l' x' v (p.back x1)
theorem jx_callT {x : Str} {T : String} {op : List D → Option D} (hc : CallM c (.type T) op) (hg : Gl c.X x) (hm : c.X.mg x = none) (hv : bootBuiltins x = some (.type T)) (hn : x ≠ "__name__") (hd : (x == ("__debug__" : Str)) = false)
    (h : (e :: es).all okHead = true) (ha : JL c fl (e :: es) fs) : JX c fl (.Call (.Name x p) (e :: es) [] pos) .O fun ρ => M.bind (fs ρ) fun ds => M.opt (op ds) := by
  obtain ⟨r2, hr, hk⟩ := hc
  rw [List.all_cons, Bool.and_eq_true] at h
  refine ⟨(pe_callTy hr hg hm hv ha.pa hn hd (star_of h.1 _ _) (noStar h.2 _ _)).imp fun σ H Q ⟨g, ρ, S, r⟩ => ⟨g, ρ, S, r.bind.imp fun ds g1 H1 l1 x1 h1 vs q => ?_⟩, rfl⟩
  obtain ⟨d, ed, h2⟩ := h1.opt
  exact hk g1 H1 vs ds d Q l1 q ed fun v g' H' e' l' x' p => h2 g' H' e' l' x' v (p.back x1)
end

namespace D
def bLen : List D → Option D
  | [.lst l] => some (.int l.length)
  | [.tup l] => some (.int l.length)
  | [.str x] => if fits x.length then some (.int x.length) else none
  | [.scr l] => some (.int l.length)
  | _ => none
def bInt : List D → Option D
  | [.int i] => some (.int i)
  | [.bl b] => some (.int (if b then 1 else 0))
  | _ => none
def bMax : List D → Option D
  | [.int i, .int j] => some (.int (if j > i then j else i))
  | _ => none
def bMin : List D → Option D
  | [.int i, .int j] => some (.int (if j < i then j else i))
  | _ => none
def toInts : List D → Option (List Int)
  | [] => some []
  | .int i :: l => (toInts l).map (i :: ·)
  | _ :: _ => none
def toBls : List D → Option (List Bool)
  | [] => some []
  | .bl b :: l => (toBls l).map (b :: ·)
  | _ :: _ => none
def bSum : List D → Option D
  | [.lst l] => (toInts l).map fun ns => .int ns.sum
  | _ => none
def bAll : List D → Option D
  | [.lst l] => (toBls l).map fun bs => .bl (bs.all id)
  | _ => none
def bAny : List D → Option D
  | [.lst l] => (toBls l).map fun bs => .bl (bs.any id)
  | _ => none
def bTuple : List D → Option D
  | [.lst l] => some (.tup l)
  | [.tup l] => some (.tup l)
  | _ => none
def bRepr : List D → Option D
  | [d] => (repr d).map .str
  | _ => none
end D

section
variable {c : Ct}
theorem line_of {P : Pm} {g : Gh} {H Hb : Hp} {v : V} {d : D} {n : Int} (l : Lay P g H) (p : Post P Hb .P g H v d) (e : D.bLen [d] = some (.int n)) : ∃ k : Nat, LenV P.K v H k ∧ n = k := by
  unfold D.bLen at e
  split at e
  · rename_i h; cases h; cases e
    obtain ⟨a, vs, rfl, hs, _, r⟩ := p.lst l
    exact ⟨vs.length, .inl ⟨vs, SqL.of hs, rfl⟩, by rw [r.length]⟩
  · rename_i h; cases h; cases e
    obtain ⟨a, vs, rfl, hs, r⟩ := p.tup l
    exact ⟨vs.length, .inr ⟨vs, hs, rfl⟩, by rw [r.length]⟩
  · rename_i x h; cases h
    split at e
    · rename_i hz
      cases e
      rw [p.str]
      exact ⟨x.length, ⟨of_decide_eq_true hz, rfl⟩, rfl⟩
    · cases e
  · rename_i h; cases h; cases e
    cases p.nl (by intro l e; cases e) with
    | @scr a ns h => exact ⟨_, .inl ⟨_, SqL.mono l.gh h, rfl⟩, by rw [List.length_map]⟩
  · cases e
theorem bLen_int {ds : List D} {d : D} (e : D.bLen ds = some d) : ∃ z n, ds = [z] ∧ d = .int n := by
  unfold D.bLen at e
  split at e <;> first | (cases e; exact ⟨_, _, rfl, rfl⟩) | cases e | (split at e <;> first | (cases e; exact ⟨_, _, rfl, rfl⟩) | cases e)
theorem call_lenM (ok : c.Ok) : CallM c (.builtin "len") D.bLen := by
  refine ⟨_, call_len, fun g H vs ds d Q l q e F => ?_⟩
  obtain ⟨z, n, rfl, rfl⟩ := bLen_int e
  obtain ⟨v, rfl, p⟩ := q.one
  obtain ⟨k, hk, rfl⟩ := line_of l p e
  exact ⟨v, k, rfl, ok.hK ▸ hk, F.int l⟩
theorem call_intM : CallM c (.type "int") D.bInt := by
  refine ⟨_, call_int1, fun g H vs ds d Q l q e F => ?_⟩
  unfold D.bInt at e
  split at e
  · cases e
    obtain ⟨v, rfl, p⟩ := q.one
    exact .inl ⟨_, by rw [p.int], F.int l⟩
  · cases e
    obtain ⟨v, rfl, p⟩ := q.one
    exact .inr ⟨_, by rw [p.bl], F.int l⟩
  · cases e
theorem call_maxM (ok : c.Ok) : CallM c (.builtin "max") D.bMax := by
  refine ⟨_, call_max2 ok.calm, fun g H vs ds d Q l q e F => ?_⟩
  unfold D.bMax at e
  split at e
  · cases e
    obtain ⟨v, u, rfl, p, p'⟩ := q.two
    exact ⟨_, _, by rw [p.int, p'.int], F.int l⟩
  · cases e
theorem call_minM (ok : c.Ok) : CallM c (.builtin "min") D.bMin := by
  refine ⟨_, call_min2 ok.calm, fun g H vs ds d Q l q e F => ?_⟩
  unfold D.bMin at e
  split at e
  · cases e
    obtain ⟨v, u, rfl, p, p'⟩ := q.two
    exact ⟨_, _, by rw [p.int, p'.int], F.int l⟩
  · cases e
theorem rps_ints {P : Pm} {G : Hp} {am : Nat → Option Addr} : ∀ {vs : List V} {ds : List D} {ns : List Int}, Rps P G am vs ds → D.toInts ds = some ns → vs = ns.map V.int
  | _, _, ns, .nil, e => by cases e; rfl
  | _, d :: ds, ns, .cons h r, e => by
    cases d with
    | int i =>
      obtain ⟨ms, em, rfl⟩ := Option.map_eq_some_iff.mp (show (D.toInts ds).map (i :: ·) = some ns from e)
      cases h
      rw [rps_ints r em]; rfl
    | _ => cases e
theorem rps_bls {P : Pm} {G : Hp} {am : Nat → Option Addr} : ∀ {vs : List V} {ds : List D} {ns : List Bool}, Rps P G am vs ds → D.toBls ds = some ns → vs = ns.map V.bl
  | _, _, ns, .nil, e => by cases e; rfl
  | _, d :: ds, ns, .cons h r, e => by
    cases d with
    | bl i =>
      obtain ⟨ms, em, rfl⟩ := Option.map_eq_some_iff.mp (show (D.toBls ds).map (i :: ·) = some ns from e)
      cases h
      rw [rps_bls r em]; rfl
    | _ => cases e
theorem call_sumM (ok : c.Ok) : CallM c (.builtin "sum") D.bSum := by
  refine ⟨_, cr_sum ok.calm, fun g H vs ds d Q l q e F => ?_⟩
  unfold D.bSum at e
  split at e
  · obtain ⟨ns, en, rfl⟩ := Option.map_eq_some_iff.mp e
    obtain ⟨v, rfl, p⟩ := q.one
    obtain ⟨a, vs, rfl, hs, _, r⟩ := p.lst l
    exact ⟨a, ns, rfl, by rw [← rps_ints r en]; exact SqL.of hs, F.int l⟩
  · cases e
theorem call_allM (ok : c.Ok) : CallM c (.builtin "all") D.bAll := by
  refine ⟨_, cr_all ok.calm, fun g H vs ds d Q l q e F => ?_⟩
  unfold D.bAll at e
  split at e
  · obtain ⟨ns, en, rfl⟩ := Option.map_eq_some_iff.mp e
    obtain ⟨v, rfl, p⟩ := q.one
    obtain ⟨a, vs, rfl, hs, _, r⟩ := p.lst l
    exact ⟨a, ns, rfl, by rw [← rps_bls r en]; exact SqL.of hs, F.bl l⟩
  · cases e
theorem call_anyM (ok : c.Ok) : CallM c (.builtin "any") D.bAny := by
  refine ⟨_, cr_any ok.calm, fun g H vs ds d Q l q e F => ?_⟩
  unfold D.bAny at e
  split at e
  · obtain ⟨ns, en, rfl⟩ := Option.map_eq_some_iff.mp e
    obtain ⟨v, rfl, p⟩ := q.one
    obtain ⟨a, vs, rfl, hs, _, r⟩ := p.lst l
    exact ⟨a, ns, rfl, by rw [← rps_bls r en]; exact SqL.of hs, F.bl l⟩
  · cases e
theorem call_tupleM (ok : c.Ok) : CallM c (.type "tuple") D.bTuple := by
  refine ⟨fun vs H Q => ∃ v, vs = [v] ∧ kTup c.X.K v H Q, fun pins s σ H xs us Q I rv h => ?_, fun g H vs ds d Q l q e F => ?_⟩
  · obtain ⟨v, rfl, h⟩ := h
    obtain ⟨u, rfl, r⟩ := vals1 rv
    exact rl_tuple pins s σ H v u Q I r h
  · unfold D.bTuple at e
    split at e
    · cases e
      obtain ⟨v, rfl, p⟩ := q.one
      obtain ⟨a, vs, rfl, hs, _, r⟩ := p.lst l
      exact ⟨_, rfl, .inl ⟨a, vs, rfl, SqL.of hs, F.newT rfl l r⟩⟩
    · cases e
      obtain ⟨v, rfl, p⟩ := q.one
      obtain ⟨a, vs, rfl, hs, r⟩ := p.tup l
      exact ⟨_, rfl, .inr ⟨a, vs, rfl, ok.hK ▸ hs, F.old l (by intro l e; cases e) (p.nl (by intro l e; cases e))⟩⟩
    · cases e
/-! ### repr -/
def rRepr (c : Ct) : List V → Hp → VK → Prop := fun vs H Q => ∃ g Hb d v t, vs = [v] ∧ Lay c.P g H ∧ Post c.P Hb .P g H v d ∧ D.repr d = some t ∧ Q (.str t) H
theorem repr_fits {d : D} {t : Str} (e : D.repr d = some t) : d.rd = true ∧ d.toPy.showable = true ∧ d.toPy.shown.length ≤ sizeLine ∧ d.toPy.depth ≤ 60 ∧ t = d.toPy.shown := by
  unfold D.repr at e
  split at e
  · rename_i h
    simp only [Bool.and_eq_true, decide_eq_true_eq] at h
    cases e
    exact ⟨h.1.1.1, h.1.1.2, h.1.2, h.2, rfl⟩
  · cases e
theorem call_reprR (ok : c.Ok) : CallR c.X (.builtin "repr") (rRepr c) := by
  intro pins s σ H xs us Q I rv h
  obtain ⟨g, Hb, d, v, t, rfl, l, p, e, q⟩ := h
  obtain ⟨u, rfl, ru⟩ := vals1 rv
  obtain ⟨h1, h2, h3, h4, rfl⟩ := repr_fits e
  have hu := ok.hu
  obtain ⟨as, r, ha⟩ := p.reads ok I l ru h1
  obtain ⟨o, ho⟩ := ok.sm
  have hsm : sysModules ∉ as := fun z => ha _ z (I.bs _ _ ho).2
  have fin : ∀ h' u tk, (∀ b o, s.heap.get? b = some o → h'.get? b = some o) → EP c.X pins σ Q (.str d.toPy.shown u) { s with heap := h', toks := tk } := fun h' u tk hk => ⟨.str _, H, I.kept hk, ⟨u, rfl⟩, q⟩
  cases u with
  | ref a => exact repr_of_reads' r h2 (fun _ => hsm) ok.hgd (by omega) (fun _ _ z => z) fin h3
  | none =>
    generalize hd : d.toPy = pd at r fin h2 h3
    cases r
    refine PySem.P.repr_of_none ?_
    have := fin s.heap s.toks (s.toks + 1) fun _ _ z => z
    rw [PyData.shown_none] at this
    exact this
  | bool b =>
    generalize hd : d.toPy = pd at r fin h2 h3
    cases r
    refine PySem.P.repr_of_bool ?_
    have := fin s.heap s.toks (s.toks + 1) fun _ _ z => z
    rw [PyData.shown_bool] at this
    exact this
  | int i t =>
    generalize hd : d.toPy = pd at r fin h2 h3
    cases r
    refine PySem.P.repr_of_int (by simpa [PyData.showable] using h2) ?_
    have := fin s.heap s.toks (s.toks + 1) fun _ _ z => z
    rw [PyData.shown_int] at this
    exact this
  | str x t =>
    generalize hd : d.toPy = pd at r fin h2 h3
    cases r
    rw [PyData.shown_str] at h3
    refine PySem.P.repr_of_str ?_ h3
    have := fin s.heap s.toks (s.toks + 1) fun _ _ z => z
    rw [PyData.shown_str] at this
    exact this
  | _ => cases r
theorem call_reprM (ok : c.Ok) : CallM c (.builtin "repr") D.bRepr := by
  refine ⟨_, call_reprR ok, fun g H vs ds d Q l q e F => ?_⟩
  unfold D.bRepr at e
  split at e
  · obtain ⟨t, et, rfl⟩ := Option.map_eq_some_iff.mp e
    obtain ⟨v, rfl, p⟩ := q.one
    exact ⟨g, H, _, v, t, rfl, l, p, et, F.str l⟩
  · cases e
end

/-! ### isinstance, one built-in type -/
inductive Ty where | bool | int | str | tuple | list | dict
  deriving DecidableEq
def Ty.py : Ty → String
  | .bool => "bool" | .int => "int" | .str => "str" | .tuple => "tuple" | .list => "list" | .dict => "dict"
/-- whether data are of a type -/
def D.isTy : D → Ty → Option Bool
  | .non, _ => some false
  | .bl _, t => some (decide (t = .bool) || decide (t = .int))
  | .int _, t => some (decide (t = .int))
  | .str _, t => some (decide (t = .str))
  | .tup _, t => some (decide (t = .tuple))
  | .lst _, t => some (decide (t = .list))
  | .dic _, t => some (decide (t = .dict))
  | _, _ => none
theorem kit_non (t : Ty) : kitB "NoneType" t.py = some false := by cases t <;> decide +kernel
theorem kit_bool (t : Ty) : kitB "bool" t.py = some (decide (t = .bool) || decide (t = .int)) := by cases t <;> decide +kernel
theorem kit_int (t : Ty) : kitB "int" t.py = some (decide (t = .int)) := by cases t <;> decide +kernel
theorem kit_str (t : Ty) : kitB "str" t.py = some (decide (t = .str)) := by cases t <;> decide +kernel
theorem kit_tuple (t : Ty) : kitB "tuple" t.py = some (decide (t = .tuple)) := by cases t <;> decide +kernel
theorem kit_list (t : Ty) : kitB "list" t.py = some (decide (t = .list)) := by cases t <;> decide +kernel
theorem kit_dict (t : Ty) : kitB "dict" t.py = some (decide (t = .dict)) := by cases t <;> decide +kernel
theorem tyx_of {P : Pm} {g : Gh} {H Hb : Hp} {v : V} {d : D} {t : Ty} {b : Bool} (l : Lay P g H) (p : Post P Hb .P g H v d) (e : d.isTy t = some b) : ∃ T, TyX P.K H v (.type T) ∧ kitB T t.py = some b := by
  cases d with
  | non => cases e; rw [p.non]; exact ⟨_, .base .non, kit_non t⟩
  | bl x => cases e; rw [p.bl]; exact ⟨_, .base (.bl x), kit_bool t⟩
  | int x => cases e; rw [p.int]; exact ⟨_, .base (.int x), kit_int t⟩
  | str x => cases e; rw [p.str]; exact ⟨_, .base (.str x), kit_str t⟩
  | tup x =>
    cases e
    obtain ⟨a, vs, rfl, hs, r⟩ := p.tup l
    rcases hs with (h | ⟨o, h⟩) | ⟨o, _, _, h, hc, _⟩
    · exact ⟨_, .base (.tup h), kit_tuple t⟩
    · exact ⟨_, .fTuple h, kit_tuple t⟩
    · exact ⟨_, .kTuple h hc, kit_tuple t⟩
  | lst x =>
    cases e
    obtain ⟨a, vs, rfl, hs, _, r⟩ := p.lst l
    exact ⟨_, .base (.lst hs), kit_list t⟩
  | dic x =>
    cases e
    have p' := p.nl (by intro l e; cases e)
    cases p' with
    | dic0 h => exact ⟨_, .base (.dK (l.gh _ _ h)), kit_dict t⟩
  | _ => cases e
section
variable {c : Ct} {fl : Fls} {a : Expr} {ma : Md} {fa : En → M D} {pos p p2 : Pos}
theorem jx_isTy (ok : c.Ok) (t : Ty) {T : Str} (hg : Gl c.X "isinstance") (hm : c.X.mg "isinstance" = none) (hgT : Gl c.X T) (hmT : c.X.mg T = none) (hv : bootBuiltins T = some (.type t.py)) (hn : T ≠ "__name__") (hd : (T == ("__debug__" : Str)) = false) (ha : JX c fl a ma fa) :
    JX c fl (.Call (.Name "isinstance" p) [a, .Name T p2] [] pos) .F fun ρ => M.bind (fa ρ) fun x => M.bind (M.opt (D.isTy x t)) fun b => M.pure (.bl b) := by
  have hT : PE c.X (.Name T p2) (tC (.ty t.py)) := pe_bltn hgT hmT hv rfl hn hd
  refine ⟨(pe_callB call_isi hg hm (by decide +kernel) (pa_cons ha.pe (pa_cons hT pa_nil) (star_of ha.hd _ _)) (he := star_of ha.hd _ _)).imp fun σ H Q ⟨g, ρ, S, r⟩ => ⟨g, ρ, S, r.bind.imp fun d1 g1 H1 l1 x1 h1 v q => ?_⟩, rfl⟩
  obtain ⟨b, eb, h2⟩ := h1.bind.opt
  obtain ⟨T', hx, hk⟩ := tyx_of l1 (q.toP : Post c.P H .P g1 H1 v d1) eb
  exact ⟨v, _, .type T', .type t.py, b, rfl, .ty _, ok.hK ▸ hx, kit_ty hk, (h2.here l1).pure l1 _ (Rp.bl b)⟩
end
end MW
end
section
set_option Elab.async false
set_option autoImplicit false
set_option maxRecDepth 100000
/-! MW8: slots that are stored, targets, what is walked, list comprehensions. -/
namespace MW
open PySem PySem.Spec PyProof.Rows L2

/-! ### a slot is stored -/
section
variable {P : Pm} {g0 g g' : Gh} {H0 H H' : Hp} {fl : Fls} {σ : L2.St} {ρ : En} {i : Nat} {v : V} {d : D}
theorem get_set_eq {α : Type} {l : List α} {i : Nat} {a b : α} (h : (l.set i a)[i]? = some b) : b = a := by
  rw [List.getElem?_set_self'] at h
  cases e : l[i]? with
  | none => rw [e] at h; cases h
  | some x => rw [e] at h; cases h; rfl
theorem set_lt {α : Type} {l : List α} {i : Nat} {a b : α} (h : (l.set i a)[i]? = some b) : i < l.length := by
  have := (List.getElem?_eq_some_iff.mp h).1
  simpa using this
/-- frozen -/
theorem SRel.setF (S : SRel P g0 H0 fl g H σ ρ) (r : Rp P g.G g.am v d) : SRel P g0 H0 (fl.set i false) g H (σ.set i (some v)) (ρ.set i (some d)) where
  lay := S.lay
  ext := S.ext
  len := by simp [S.len]
  fro := fun j e h f => by
    by_cases q : i = j
    · subst q
      have e' : some e = some d := get_set_eq h
      cases e'
      exact ⟨v, List.getElem?_set_self (by rw [S.len]; exact set_lt h), r⟩
    · rw [List.getElem?_set_ne q] at h f
      rw [List.getElem?_set_ne q]
      exact S.fro j e h f
  own := fun j e h f => by
    by_cases q : i = j
    · subst q
      exact absurd (get_set_eq f) (by decide)
    · rw [List.getElem?_set_ne q] at h f
      rw [List.getElem?_set_ne q]
      exact S.own j e h f
  sep := fun j k l m u n h1 h2 f1 f2 s1 s2 => by
    by_cases q : i = j
    · subst q; exact absurd (get_set_eq f1) (by decide)
    · by_cases q' : i = k
      · subst q'; exact absurd (get_set_eq f2) (by decide)
      · rw [List.getElem?_set_ne q] at h1 f1 s1
        rw [List.getElem?_set_ne q'] at h2 f2 s2
        exact S.sep j k l m u n h1 h2 f1 f2 s1 s2
/-- one's own: new in the state ahead of which H1 stood -/
theorem SRel.setO {g1 : Gh} {H1 : Hp} (S : SRel P g0 H0 fl g1 H1 σ ρ) (S' : SRel P g0 H0 fl g H σ ρ) (hi : i < fl.length) (p : Post P H1 .O g H v d) : SRel P g0 H0 (fl.set i true) g H (σ.set i (some v)) (ρ.set i (some d)) := by
  have fresh : ∀ (j : Nat) (m l : List D), i ≠ j → d = .lst l → ρ[j]? = some (some (.lst m)) → fl[j]? = some true → σ[j]? = some (some v) → False := fun j m l n e h f s => by
    subst e
    obtain ⟨u, h1, h2, _⟩ := S.own j _ h f
    rw [h1] at s
    cases s
    obtain ⟨a, vs, rfl, e3, _⟩ := h2
    have := p.2 l a rfl rfl
    rw [e3] at this; cases this
  refine ⟨S'.lay, S'.ext, by simp [S'.len], fun j e h f => ?_, fun j e h f => ?_, fun j k l m u n h1 h2 f1 f2 s1 s2 => ?_⟩
  · by_cases q : i = j
    · subst q
      exact absurd (List.getElem?_set_self hi) f
    · rw [List.getElem?_set_ne q] at h f
      rw [List.getElem?_set_ne q]
      exact S'.fro j e h f
  · by_cases q : i = j
    · subst q
      have e' : some e = some d := get_set_eq h
      cases e'
      refine ⟨v, List.getElem?_set_self (by rw [S'.len]; exact set_lt h), p.1, fun l a e1 e2 => ?_⟩
      have n1 := p.2 l a e1 e2
      cases z : H0 a with
      | none => rfl
      | some o => exact absurd n1 (S.ext.th a o z)
    · rw [List.getElem?_set_ne q] at h f
      rw [List.getElem?_set_ne q]
      exact S'.own j e h f
  · by_cases q : i = j
    · subst q
      have q' : i ≠ k := n
      rw [List.getElem?_set_ne q'] at h2 f2 s2
      have e1 : some (D.lst l) = some d := get_set_eq h1
      have e2 : some u = some v := get_set_eq s1
      cases e1; cases e2
      exact fresh k m l q' rfl h2 f2 s2
    · rw [List.getElem?_set_ne q] at h1 f1 s1
      by_cases q' : i = k
      · subst q'
        have e1 : some (D.lst m) = some d := get_set_eq h2
        have e2 : some u = some v := get_set_eq s2
        cases e1; cases e2
        exact fresh j l m q rfl h1 f1 s1
      · rw [List.getElem?_set_ne q'] at h2 f2 s2
        exact S'.sep j k l m u n h1 h2 f1 f2 s1 s2
/-- forgotten -/
theorem SRel.forget (S : SRel P g0 H0 fl g H σ ρ) (i : Nat) : SRel P g0 H0 fl g H (σ.set i none) (ρ.set i none) where
  lay := S.lay
  ext := S.ext
  len := by simp [S.len]
  fro := fun j e h f => by
    by_cases q : i = j
    · subst q; cases get_set_eq h
    · rw [List.getElem?_set_ne q] at h
      rw [List.getElem?_set_ne q]
      exact S.fro j e h f
  own := fun j e h f => by
    by_cases q : i = j
    · subst q; cases get_set_eq h
    · rw [List.getElem?_set_ne q] at h
      rw [List.getElem?_set_ne q]
      exact S.own j e h f
  sep := fun j k l m u n h1 h2 f1 f2 s1 s2 => by
    by_cases q : i = j
    · subst q; cases get_set_eq h1
    · by_cases q' : i = k
      · subst q'; cases get_set_eq h2
      · rw [List.getElem?_set_ne q] at h1 s1
        rw [List.getElem?_set_ne q'] at h2 s2
        exact S.sep j k l m u n h1 h2 f1 f2 s1 s2
def wipeD (ρ : En) : List Nat → En
  | [] => ρ
  | i :: l => (wipeD ρ l).set i none
theorem SRel.wipe (S : SRel P g0 H0 fl g H σ ρ) : ∀ l : List Nat, SRel P g0 H0 fl g H (L2.wipe σ l) (wipeD ρ l)
  | [] => S
  | i :: l => (SRel.wipe S l).forget i
end

/-! ### targets -/
inductive Tg where
  | one (i : Nat)
  | tup (l : List Nat)
def setsD : List Nat → List D → En → Option En
  | [], [], ρ => some ρ
  | i :: l, d :: ds, ρ => setsD l ds (ρ.set i (some d))
  | _, _, _ => none
def setsF : List Nat → Fls → Fls
  | [], fl => fl
  | i :: l, fl => setsF l (fl.set i false)
def Tg.put : Tg → D → En → Option En
  | .one i, d, ρ => some (ρ.set i (some d))
  | .tup l, .tup ds, ρ => setsD l ds ρ
  | _, _, _ => none
def Tg.fl : Tg → Fls → Fls
  | .one i, fl => fl.set i false
  | .tup l, fl => setsF l fl
def tG (c : Ct) (fl : Fls) (T : Tg) : TG := fun v σ H Q => ∃ g ρ d ρ', SRel c.P c.g0 c.H0 fl g H σ ρ ∧ Rp c.P g.G g.am v d ∧ T.put d ρ = some ρ' ∧ ∀ σ', (∀ l, (∀ i ∈ (match T with | .one i => [i] | .tup l => l), i ∈ l) → L2.wipe σ' l = L2.wipe σ l) → SRel c.P c.g0 c.H0 (T.fl fl) g H σ' ρ' → Q σ' H
structure JG (c : Ct) (fl : Fls) (e : Expr) (T : Tg) : Prop where
  pg : PG c.X e (tG c fl T)
theorem _root_.L2.PG.imp {X : Cx} {e : Expr} {t t' : TG} (h : PG X e t) (i : ∀ v σ H Q, t' v σ H Q → t v σ H Q) : PG X e t' := ⟨fun pins s σ H v u Q I r h' => h.run pins s σ H v u Q I r (i v σ H Q h')⟩
section
variable {c : Ct} {fl : Fls} {pos : Pos}
theorem wipe_set {σ : L2.St} {i : Nat} {o : Option V} : ∀ {l : List Nat}, i ∈ l → L2.wipe (σ.set i o) l = L2.wipe σ l
  | j :: l, h => by
    unfold L2.wipe
    by_cases q : i = j
    · subst q
      by_cases h' : i ∈ l
      · rw [wipe_set h']
      · have : ∀ l : List Nat, i ∉ l → L2.wipe (σ.set i o) l = (L2.wipe σ l).set i o := fun l hl => by
          induction l with
          | nil => rfl
          | cons k l ih =>
            unfold L2.wipe
            rw [ih (fun z => hl (List.mem_cons_of_mem _ z)), List.set_comm _ _ (fun z => hl (by subst z; exact List.mem_cons_self))]
        rw [this l h', List.set_set]
    · rw [wipe_set ((List.mem_cons.mp h).resolve_left q)]
theorem jg_one {i : Nat} {x : Str} (hN : c.X.N.Nodup) (hi : c.X.N[i]? = some x) (hx : Loc c.X.env.scope x) (hf : c.X.fn x = true ∨ c.X.env.scope.names.lookup x = some .local) : JG c fl (.Name x pos) (.one i) := by
  refine ⟨(pg_name hN hi hx hf).imp fun v σ H Q ⟨g, ρ, d, ρ', S, r, e, k⟩ => ?_⟩
  cases e
  exact k _ (fun l h => wipe_set (h i (by simp))) (S.setF r)
/-- names, one behind the other -/
structure JGs (c : Ct) (es : List Expr) (l : List Nat) : Prop where
  pgs : ∀ fl, PGs c.X es fun vs σ H Q => ∃ g ρ ds ρ', SRel c.P c.g0 c.H0 fl g H σ ρ ∧ Rps c.P g.G g.am vs ds ∧ setsD l ds ρ = some ρ' ∧ ∀ σ', (∀ m, (∀ i ∈ l, i ∈ m) → L2.wipe σ' m = L2.wipe σ m) → SRel c.P c.g0 c.H0 (setsF l fl) g H σ' ρ' → Q σ' H
theorem _root_.L2.PGs.imp {X : Cx} {es : List Expr} {t t' : TGs} (h : PGs X es t) (i : ∀ v σ H Q, t' v σ H Q → t v σ H Q) : PGs X es t' := ⟨fun pins s σ H vs us Q I r h' => h.run pins s σ H vs us Q I r (i vs σ H Q h')⟩
theorem jgs_nil : JGs c [] [] := ⟨fun fl => pgs_nil.imp fun vs σ H Q ⟨g, ρ, ds, ρ', S, r, e, k⟩ => by
  cases ds with
  | nil => cases e; cases r; exact ⟨rfl, k σ (fun _ _ => rfl) S⟩
  | cons => cases e⟩
theorem jgs_cons {i : Nat} {l : List Nat} {x : Str} {es : List Expr} (hN : c.X.N.Nodup) (hi : c.X.N[i]? = some x) (hx : Loc c.X.env.scope x) (hf : c.X.fn x = true ∨ c.X.env.scope.names.lookup x = some .local) (h : JGs c es l) : JGs c (.Name x pos :: es) (i :: l) := by
  refine ⟨fun fl => (pgs_cons (pg_name hN hi hx hf) (h.pgs (fl.set i false))).imp fun vs σ H Q ⟨g, ρ, ds, ρ', S, r, e, k⟩ => ?_⟩
  cases ds with
  | nil => cases e
  | cons d ds =>
    cases r with
    | cons r1 r2 =>
      refine ⟨_, _, rfl, g, _, ds, ρ', S.setF r1, r2, e, fun σ' hw S' => k σ' (fun m hm => ?_) S'⟩
      rw [hw m (fun j hj => hm j (List.mem_cons_of_mem _ hj)), wipe_set (hm i List.mem_cons_self)]
theorem names_plain {x : Str} {es : List Expr} {env : PySem.Env} : (assignEach (.Name x pos :: es) env) = (false, assign (.Name x pos) env) :: assignEach es env := rfl
theorem jg_tup (ok : c.Ok) {es : List Expr} {l : List Nat} {n : Nat} (h : JGs c es l) (hn : (assignEach es c.X.env).length = l.length) (hst : (assignEach es c.X.env).findIdx? (·.1) = none) : JG c fl (.Tuple es n pos) (.tup l) := by
  refine ⟨(pg_tup ok.calm (h.pgs fl) hn hst).imp fun v σ H Q ⟨g, ρ, d, ρ', S, r, e, k⟩ => ?_⟩
  cases d with
  | tup ds =>
    cases r with
    | tup hs rs =>
      have hl : ∀ (l : List Nat) (ds : List D) (ρ ρ' : En), setsD l ds ρ = some ρ' → ds.length = l.length := by
        intro l
        induction l with
        | nil => intro ds ρ ρ' e; cases ds with | nil => rfl | cons => cases e
        | cons i l ih => intro ds ρ ρ' e; cases ds with | nil => cases e | cons d ds => exact congrArg (· + 1) (ih ds _ _ e)
      exact ⟨_, _, rfl, ok.hK ▸ SqT.mono S.lay.gh hs, by rw [rs.length]; exact hl _ _ _ _ e, g, ρ, ds, ρ', S, rs, e, k⟩
  | _ => cases e
end
end MW
end
section
set_option Elab.async false
set_option autoImplicit false
set_option maxRecDepth 100000
/-! MW9: what is walked; list comprehensions. -/
namespace MW
open PySem PySem.Spec PyProof.Rows L2

/-- while g's frozen part stands, the iterator gives the data ds, one at a turn -/
def WalkD (P : Pm) (g : Gh) (J : It) (ds : List D) : Prop := ∀ g' H', Lay P g' H' → Same g.G g'.G → (∀ n a, g.am n = some a → g'.am n = some a) →
  J.stop ds.length H' ∧ ∀ i d, ds[i]? = some d → J.go i H' ∧ ∀ x H'', J.yld i H' x H'' → ∃ g'', g''.w = g'.w ∧ Lay P g'' H'' ∧ Ext g' H' g'' H'' ∧ Rp P g''.G g''.am x d
/-- an iterable, by data: the items are told -/
structure JI (c : Ct) (fl : Fls) (tg e : Expr) (f : En → M (List D)) : Prop where
  pi : PI c.X tg e fun σ H R => ∃ g ρ, SRel c.P c.g0 c.H0 fl g H σ ρ ∧ Res c.P g H (c.ew σ) (f ρ g.w) fun ds g' H' => ∀ J, WalkD c.P g' J ds → R J H'
theorem _root_.L2.PI.imp {X : Cx} {tg e : Expr} {t t' : TI} (h : PI X tg e t) (i : ∀ σ H R, t' σ H R → t σ H R) : PI X tg e t' := ⟨fun pins s σ H R I h' => h.run pins s σ H R I (i σ H R h')⟩

theorem walkD_list {P : Pm} {g : Gh} {a : Addr} {vs : List V} {ds : List D} (h : g.G a = some (.lst vs)) (r : Rps P g.G g.am vs ds) : WalkD P g (Itl P.K a) ds := fun g' H' l k ka => by
  have hs : SqL P.K H' a vs := SqL.of (l.gh _ _ (k _ _ h))
  refine ⟨⟨vs, hs, Nat.le_of_eq r.length⟩, fun i d e => ?_⟩
  obtain ⟨v, e1, r1⟩ := r.get e
  refine ⟨⟨vs, v, hs, e1⟩, fun x H'' ⟨q1, q2⟩ => ?_⟩
  have := q2 vs hs
  rw [e1] at this
  cases this
  exact ⟨g', rfl, q1 ▸ l, q1 ▸ Ext.refl g' H', r1.mono k ka⟩
theorem rps_scr {P : Pm} {G : Hp} {am : Nat → Option Addr} : ∀ l : List Int, Rps P G am (l.map V.int) (l.map D.int)
  | [] => .nil
  | i :: l => .cons (.int i) (rps_scr l)
theorem walkD_scr {P : Pm} {g : Gh} {a : Addr} {vs : List V} {ds : List D} (h : SqL P.K g.G a vs) (r : Rps P g.G g.am vs ds) : WalkD P g (Itl P.K a) ds := fun g' H' l k ka => by
  have hs : SqL P.K H' a vs := SqL.mono l.gh (SqL.mono k h)
  refine ⟨⟨vs, hs, Nat.le_of_eq r.length⟩, fun i d e => ?_⟩
  obtain ⟨v, e1, r1⟩ := r.get e
  refine ⟨⟨vs, v, hs, e1⟩, fun x H'' ⟨q1, q2⟩ => ?_⟩
  have := q2 vs hs
  rw [e1] at this
  cases this
  exact ⟨g', rfl, q1 ▸ l, q1 ▸ Ext.refl g' H', r1.mono k ka⟩
theorem walkD_tup {P : Pm} {g : Gh} {a : Addr} {vs : List V} {ds : List D} (h : SqT P.K g.G a vs) (r : Rps P g.G g.am vs ds) : WalkD P g (Itt P.K a) ds := fun g' H' l k ka => by
  have hs : SqT P.K H' a vs := SqT.mono l.gh (SqT.mono k h)
  refine ⟨⟨vs, hs, Nat.le_of_eq r.length⟩, fun i d e => ?_⟩
  obtain ⟨v, e1, r1⟩ := r.get e
  refine ⟨⟨vs, v, hs, e1⟩, fun x H'' ⟨q1, q2⟩ => ?_⟩
  have := q2 vs hs
  rw [e1] at this
  cases this
  exact ⟨g', rfl, q1 ▸ l, q1 ▸ Ext.refl g' H', r1.mono k ka⟩
def rangeD (lo : Int) (n : Nat) : List D := (List.range n).map fun i => .int (lo + (i : Nat))
theorem walkD_range {P : Pm} {g : Gh} {lo : Int} {n : Nat} : WalkD P g (Itr lo n) (rangeD lo n) := fun g' H' l k ka => by
  refine ⟨by unfold rangeD; simp [Itr], fun i d e => ?_⟩
  unfold rangeD at e
  rw [List.getElem?_map] at e
  obtain ⟨j, ej, rfl⟩ := Option.map_eq_some_iff.mp e
  obtain ⟨hi, rfl⟩ := List.getElem?_eq_some_iff.mp ej
  rw [List.length_range] at hi
  refine ⟨hi, fun x H'' ⟨q1, q2⟩ => ⟨g', rfl, q1 ▸ l, q1 ▸ Ext.refl g' H', ?_⟩⟩
  rw [q2, List.getElem_range]
  exact .int _

def asSeq : D → Option (List D)
  | .lst l => some l
  | .tup l => some l
  | .scr l => some (l.map .int)
  | _ => none
def small62 (i : Int) : Bool := decide (-(2 ^ 62) ≤ i) && decide (i < 2 ^ 62)
theorem small62_ok {i : Int} (h : small62 i = true) : -(2 ^ 62) ≤ i ∧ i < 2 ^ 62 := by
  unfold small62 at h
  simpa using h
section
variable {c : Ct} {fl : Fls} {tg e a b : Expr} {ma mb : Md} {fa fb : En → M D} {pos p : Pos}
/-- a list or a tuple -/
theorem pi_seq {X : Cx} {tg e : Expr} {t : TE} (hl : PE X e t) : PI X tg e fun σ H R => t σ H fun x H1 => (∃ a, x = .ref a ∧ (∃ xs, SqL X.K H1 a xs) ∧ R (Itl X.K a) H1) ∨ ∃ a, x = .ref a ∧ (∃ xs, SqT X.K H1 a xs) ∧ R (Itt X.K a) H1 := by
  refine ⟨fun pins s σ H R I h => thn (hl.run pins s σ H _ I h) fun v s1 ⟨x, H1, I1, rx, q⟩ => ?_⟩
  have new : ∀ b ∈ [s1.heap.objs.size], FpOk X pins H1 b := fun b hb => by
    rw [List.mem_singleton.mp hb]
    exact I1.fpOk (Nat.le_refl _) (I1.hok.fresh (Nat.le_refl _))
  rcases q with ⟨a, rfl, ⟨xs, hs⟩, q⟩ | ⟨a, rfl, ⟨xs, hs⟩, q⟩
  · cases rx
    obtain ⟨its, _, hp, _⟩ := I1.list hs
    exact wpAny_pyIter_list hp.isList ⟨_, [s1.heap.objs.size], _, _, H1, rfl, I1.kept (t' := s1.toks) fun _ _ z => Heap.get?_push_of_some _ z, turn_list a _, ⟨_, Heap.get?_push_size _ rfl, rfl, rfl⟩, new, q⟩
  · cases rx
    obtain ⟨its, _, hp, _⟩ := I1.tuple hs
    exact wpAny_pyIter_tuple hp ⟨_, [s1.heap.objs.size], _, _, H1, rfl, I1.kept (t' := s1.toks) fun _ _ z => Heap.get?_push_of_some _ z, turn_tuple a _, ⟨_, Heap.get?_push_size _ rfl, rfl, rfl⟩, new, q⟩
theorem ji_seq (ok : c.Ok) (ha : JX c fl a .F fa) : JI c fl tg a fun ρ => M.bind (fa ρ) fun x => M.opt (asSeq x) := by
  refine ⟨(pi_seq ha.pe).imp fun σ H R ⟨g, ρ, S, r⟩ => ⟨g, ρ, S, r.bind.imp fun d g1 H1 l1 x1 h1 v q => ?_⟩⟩
  obtain ⟨ds, ed, h2⟩ := h1.opt
  have fin := h2.here l1
  have rv : Rp c.P g1.G g1.am v d := q
  cases d with
  | lst ds' =>
    cases ed
    cases rv with
    | lst h r => exact .inl ⟨_, rfl, ⟨_, SqL.of (l1.gh _ _ h)⟩, fin _ (ok.hK ▸ walkD_list h r)⟩
  | tup ds' =>
    cases ed
    cases rv with
    | tup h r => exact .inr ⟨_, rfl, ⟨_, ok.hK ▸ SqT.mono l1.gh h⟩, fin _ (ok.hK ▸ walkD_tup h r)⟩
  | scr ns =>
    cases ed
    cases rv with
    | scr h => exact .inl ⟨_, rfl, ⟨_, ok.hK ▸ SqL.mono l1.gh h⟩, fin _ (ok.hK ▸ walkD_scr h (rps_scr ns))⟩
  | _ => cases ed
/-- range(a), range(a, b) -/
def rng1 : List D → Option (List D)
  | [.int n] => if small62 n then some (rangeD 0 n.toNat) else none
  | _ => none
def rng2 : List D → Option (List D)
  | [.int i, .int j] => if small62 i && small62 j then some (rangeD i (j - i).toNat) else none
  | _ => none
theorem ji_range1 {fs : En → M (List D)} (hg : Gl c.X "range") (hm : c.X.mg "range" = none) (h : okHead a = true) (ha : JL c fl [a] fs) : JI c fl tg (.Call (.Name "range" p) [a] [] pos) fun ρ => M.bind (fs ρ) fun ds => M.opt (rng1 ds) := by
  refine ⟨(pi_range1 hg hm ha.pa (star_of h _ _)).imp fun σ H R ⟨g, ρ, S, r⟩ => ⟨g, ρ, S, r.bind.imp fun ds g1 H1 l1 x1 h1 vs q => ?_⟩⟩
  obtain ⟨out, eo, h2⟩ := h1.opt
  unfold rng1 at eo
  split at eo
  · split at eo
    · rename_i n hz
      cases eo
      obtain ⟨v, rfl, p⟩ := q.one
      exact ⟨n, by rw [p.int], (small62_ok hz).1, (small62_ok hz).2, h2.here l1 _ walkD_range⟩
    · cases eo
  · cases eo
theorem ji_range2 {fs : En → M (List D)} (hg : Gl c.X "range") (hm : c.X.mg "range" = none) (h : okHead a = true) (h' : okHead b = true) (ha : JL c fl [a, b] fs) : JI c fl tg (.Call (.Name "range" p) [a, b] [] pos) fun ρ => M.bind (fs ρ) fun ds => M.opt (rng2 ds) := by
  refine ⟨(pi_range2 hg hm ha.pa (by rw [star_of h, star_of h']; rfl) (by rw [star_of h']; rfl)).imp fun σ H R ⟨g, ρ, S, r⟩ => ⟨g, ρ, S, r.bind.imp fun ds g1 H1 l1 x1 h1 vs q => ?_⟩⟩
  obtain ⟨out, eo, h2⟩ := h1.opt
  unfold rng2 at eo
  split at eo
  · split at eo
    · rename_i i j hz
      cases eo
      rw [Bool.and_eq_true] at hz
      obtain ⟨v, u, rfl, p, p'⟩ := q.two
      exact ⟨i, j, by rw [p.int, p'.int], ⟨(small62_ok hz.1).1, (small62_ok hz.1).2, (small62_ok hz.2).1, (small62_ok hz.2).2⟩, h2.here l1 _ walkD_range⟩
    · cases eo
  · cases eo
end

/-! ### list comprehensions -/
/-- no error leaves -/
def M.quiet {α : Type} (m : M α) : M α := fun w => match m w with
  | .exc _ _ _ => .bad
  | r => r
def compL (body : D → M (Option D)) : List D → List D → M (List D)
  | [], acc => M.pure acc
  | d :: ds, acc => M.bind (M.quiet (body d)) fun o => match o with
    | none => compL body ds acc
    | some y => if fits (acc.length + 1) then compL body ds (acc ++ [y]) else M.bad
/-- within a block: no error is let out -/
def Ct.blk (c : Ct) (X : Cx) : Ct := { c with X := X, W := fun _ _ _ _ => False }
def tYesM : En → M Bool := fun _ => M.pure true
/-- a clause's tests -/
structure JTs (c : Ct) (fl : Fls) (ifs : List Expr) (f : En → M Bool) : Prop where
  pts : PTs c.X ifs (tDT c fl f)
theorem jts_nil {c : Ct} {fl : Fls} : JTs c fl [] tYesM := ⟨⟨fun pins s σ H Q I ⟨_, _, S, r⟩ => pts_nil.run pins s σ H Q I (r.pure S.lay)⟩⟩
theorem jts_one {c : Ct} {fl : Fls} {e : Expr} {f : En → M Bool} (h : JT c fl e f) : JTs c fl [e] f := ⟨pts_one h.pt⟩
def compBody (own : List Nat) (T : Tg) (ft : En → M Bool) (fe : En → M D) (ρ : En) : D → M (Option D) := fun d =>
  M.bind (M.opt (T.put d (wipeD ρ own))) fun ρ1 => M.bind (ft ρ1) fun b => if b then M.bind (fe ρ1) fun y => M.pure (some y) else M.pure none
end MW
end
section
set_option Elab.async false
set_option autoImplicit false
set_option maxRecDepth 100000
/-! MW10: the rule of list comprehensions by data. -/
namespace MW
open PySem PySem.Spec PyProof.Rows L2

section
variable {P : Pm} {g g' g1 : Gh} {H H' H1 : Hp} {E : WD} {α β : Type} {D : Addr} {o : HO}
theorem Res.of_ok {r : Rs α} {a : α} {w : Wd} {K : α → Gh → Hp → Prop} (e : r = .ok a w) (h : ∀ g' H', g'.w = w → Lay P g' H' → Ext g H g' H' → K a g' H') : Res P g H E r K := by
  subst e; exact h
/-- an object that is neither frozen nor a cell's is changed -/
theorem Lay.updO (l : Lay P g H) (n1 : g.G D = none) (n2 : g.R D = none) : Lay P g (upd H D o) where
  gh := fun a u e => by rw [upd_ne (ne_of_none e n1)]; exact l.gh a u e
  rh := fun a u e => by rw [upd_ne (ne_of_none e n2)]; exact l.rh a u e
  dj := l.dj
  wr := l.wr
theorem Ext.updO (x : Ext g1 H1 g H) (n : H1 D = none) : Ext g1 H1 g (upd H D o) where
  keep := fun a u e r => by rw [upd_ne (ne_of_none e n)]; exact x.keep a u e r
  gg := x.gg
  gn := x.gn
  rn := x.rn
  am := x.am
  th := fun a u e => by rw [upd_ne (ne_of_none e n)]; exact x.th a u e
theorem Ext.gnone (x : Ext g H g' H') {a : Addr} {u : HO} (h : H a = some u) (n : g.G a = none) : g'.G a = none := by
  cases q : g'.G a with
  | none => rfl
  | some z =>
    rcases x.gn a z q with e | e
    · rw [n] at e; cases e
    · rw [h] at e; cases e
theorem bind_ok {m : M α} {k : α → M β} {w w2 : Wd} {b : β} (h : M.bind m k w = .ok b w2) : ∃ a w1, m w = .ok a w1 ∧ k a w1 = .ok b w2 := by
  unfold M.bind at h
  split at h
  · exact ⟨_, _, by assumption, h⟩
  · cases h
  · cases h
theorem opt_ok {m : Option α} {w w2 : Wd} {b : α} (h : M.opt m w = .ok b w2) : m = some b ∧ w = w2 := by
  cases m with
  | none => cases h
  | some a => cases h; exact ⟨rfl, rfl⟩
theorem quiet_ok {m : M α} {w w2 : Wd} {b : α} (h : M.quiet m w = .ok b w2) : m w = .ok b w2 := by
  unfold M.quiet at h
  split at h
  · cases h
  · exact h
theorem wipe_none {σ : L2.St} : ∀ {l : List Nat} {i : Nat}, i ∈ l → (L2.wipe σ l).set i none = L2.wipe σ l
  | j :: l, i, h => by
    unfold L2.wipe
    by_cases q : i = j
    · subst q; rw [List.set_set]
    · rw [List.set_comm _ _ (fun z => q z.symm), wipe_none ((List.mem_cons.mp h).resolve_left q)]
theorem wipe_sub {σ : L2.St} {l : List Nat} : ∀ {m : List Nat}, (∀ i ∈ m, i ∈ l) → L2.wipe (L2.wipe σ l) m = L2.wipe σ l
  | [], _ => rfl
  | i :: m, h => by
    show (L2.wipe (L2.wipe σ l) m).set i none = _
    rw [wipe_sub fun j hj => h j (List.mem_cons_of_mem _ hj)]
    exact wipe_none (h i List.mem_cons_self)
/-- a comprehension's outcome is no error -/
theorem compL_noexc (body : MW.D → M (Option MW.D)) : ∀ (ds acc : List MW.D) (w w' : Wd) (k : Nat) (d : MW.D), compL body ds acc w ≠ .exc k d w'
  | [], acc, w, w', k, d => by intro h; cases h
  | x :: ds, acc, w, w', k, d => by
    intro h
    unfold compL M.bind M.quiet at h
    cases e : body x w with
    | ok o w1 =>
      rw [e] at h
      cases o with
      | none => exact compL_noexc body ds acc w1 w' k d h
      | some y =>
        have h' : (if fits (acc.length + 1) = true then compL body ds (acc ++ [y]) else M.bad) w1 = .exc k d w' := h
        split at h'
        · exact compL_noexc body ds _ w1 w' k d h'
        · cases h'
    | exc _ _ _ => rw [e] at h; cases h
    | bad => rw [e] at h; cases h
end
def Tg.slots : Tg → List Nat
  | .one i => [i]
  | .tup l => l
/-- the parts of a comprehension, in any block of it -/
structure JC (c : Ct) (fl : Fls) (tg elt : Expr) (ifs : List Expr) (scope : Scope) (T : Tg) (ft : En → M Bool) (fe : En → M D) : Prop where
  g : ∀ (s : Shared) (H : Hp) (C : Addr) (cl : List (Str × Addr)) (fp : List Addr), JG (c.blk (c.X.blk s H scope (compEnvC scope cl C c.X.env) fp)) fl tg T
  t : ∀ (s : Shared) (H : Hp) (C : Addr) (cl : List (Str × Addr)) (fp : List Addr), JTs (c.blk (c.X.blk s H scope (compEnvC scope cl C c.X.env) fp)) (T.fl fl) ifs ft
  e : ∀ (s : Shared) (H : Hp) (C : Addr) (cl : List (Str × Addr)) (fp : List Addr), JX (c.blk (c.X.blk s H scope (compEnvC scope cl C c.X.env) fp)) (T.fl fl) elt .F fe
def fComp (own : List Nat) (T : Tg) (fi : En → M (List D)) (ft : En → M Bool) (fe : En → M D) : En → M D := fun ρ => M.bind (fi ρ) fun ds => M.bind (compL (compBody own T ft fe ρ) ds []) fun l => M.pure (.lst l)
section
variable {c : Ct} {fl : Fls} {tg elt iter : Expr} {ifs : List Expr} {scope : Scope} {own : List (Str × Nat)} {pos : Pos} {T : Tg} {fi : En → M (List D)} {ft : En → M Bool} {fe : En → M D}
/-- a comprehension's reading, from what it is by data -/
theorem comp_reads (ok : c.Ok) (hT : ∀ i ∈ T.slots, i ∈ own.map (·.2)) (σ : L2.St) (H : Hp) (Q : VK) (h : tD c fl .O (fComp (own.map (·.2)) T fi ft fe) σ H Q) :
    tLc (fun σ H R => ∃ g ρ, SRel c.P c.g0 c.H0 fl g H σ ρ ∧ Res c.P g H (c.ew σ) (fi ρ g.w) fun ds g' H' => ∀ J, WalkD c.P g' J ds → R J H') (tG c fl T) (tDT (c.blk c.X) (T.fl fl) ft) (tD (c.blk c.X) (T.fl fl) .F fe) (own.map (·.2)) σ H Q := by
  obtain ⟨g, ρ, S, r⟩ := h
  refine ⟨g, ρ, S, r.bind.imp fun ds g1 H1 l1 x1 h1 J wk => fun D hD => ?_⟩
  generalize hb : compBody (own.map (·.2)) T ft fe ρ = body at h1
  generalize hr0 : compL body ds [] g1.w = r0
  have S1 := S.to l1 x1
  have fin : ∀ acc w, r0 = .ok acc w → ∀ g' H', g'.w = w → Lay c.P g' H' → Ext g1 H1 g' H' → ∀ v, Post c.P H .O g' H' v (.lst acc) → Q v H' := by
    intro acc w e g' H' ew l' x'
    subst e
    unfold M.bind at h1
    rw [hr0] at h1
    exact h1 g' H' ew l' x'
  have nb : ∃ acc w, r0 = .ok acc w := by
    cases r0 with
    | ok acc w => exact ⟨acc, w, rfl⟩
    | exc k d w => exact absurd hr0 (compL_noexc _ _ _ _ _ _ _)
    | bad =>
      unfold M.bind at h1
      rw [hr0] at h1
      exact h1.elim
  obtain ⟨out, wo, ho⟩ := nb
  refine ⟨fun i m H => m = ds.length - i ∧ i ≤ ds.length ∧ ∃ g2 acc vs, Lay c.P g2 H ∧ Ext g1 H1 g2 H ∧ H D = some (.lst vs) ∧ g2.G D = none ∧ g2.R D = none ∧ Rps c.P g2.G g2.am vs acc ∧ compL body (ds.drop i) acc g2.w = r0, ⟨_, rfl, Nat.zero_le _, g1, [], [], l1.new hD, Ext.new hD, upd_same, (l1.free hD).1, (l1.free hD).2, .nil, hr0⟩, ?_⟩
  rintro i m H2 ⟨rfl, hi, g2, acc, vs, l2, x2, hv, n1, n2, rs, eq⟩
  obtain ⟨w1, w2⟩ := wk g2 H2 l2 x2.gg x2.am
  rcases Nat.lt_or_ge i ds.length with hlt | hge
  · right
    have ed : ds[i]? = some ds[i] := List.getElem?_eq_getElem hlt
    obtain ⟨go, yl⟩ := w2 i _ ed
    refine ⟨go, _, fun H' h => ⟨ds.length - (i + 1), by omega, h⟩, fun x H3 hy => ?_⟩
    obtain ⟨g3, ew3, l3, x3, r3⟩ := yl x H3 hy
    have x13 := x2.trans x3
    rw [List.drop_eq_getElem_cons hlt] at eq
    rw [ho] at eq
    obtain ⟨ob, wb, eb, ek⟩ := bind_ok eq
    have eb' := quiet_ok eb
    rw [← hb] at eb'
    obtain ⟨ρ1, wp, ep, eb2⟩ := bind_ok eb'
    obtain ⟨ep', rfl⟩ := opt_ok ep
    obtain ⟨tb, wt, et, eb3⟩ := bind_ok eb2
    refine ⟨g3, wipeD ρ (own.map (·.2)), _, ρ1, (S1.to l3 x13).wipe _, r3, ep', fun σ2 hw S3 => ⟨?_, ?_⟩⟩
    · rw [hw _ hT, wipe_sub fun _ z => z]
    · refine ⟨g3, ρ1, S3, Res.of_ok (by rw [ew3]; exact et) fun g4 H4 ew4 l4 x4 => ?_⟩
      have hv4 : H4 D = some (.lst vs) := x4.keep _ _ (x3.keep _ _ hv n2) (x3.rnone hv n2)
      have n14 : g4.G D = none := x4.gnone (x3.keep _ _ hv n2) (x3.gnone hv n1)
      have n24 : g4.R D = none := x4.rnone (x3.keep _ _ hv n2) (x3.rnone hv n2)
      cases tb with
      | false =>
        have e2 : M.pure none wt = Rs.ok ob wb := eb3
        cases e2
        exact ⟨rfl, hlt, g4, acc, vs, l4, x13.trans x4, hv4, n14, n24, (rs.ext x3).ext x4, by rw [ew4, ho]; exact ek⟩
      | true =>
        have e2 : M.bind (fe ρ1) (fun y => M.pure (some y)) wt = Rs.ok ob wb := eb3
        obtain ⟨y, wy, ey, e3⟩ := bind_ok e2
        cases e3
        refine ⟨g4, ρ1, S3.to l4 x4, Res.of_ok (by rw [ew4]; exact ey) fun g5 H5 ew5 l5 x5 v p => ?_⟩
        have hv5 : H5 D = some (.lst vs) := x5.keep _ _ hv4 n24
        have n15 : g5.G D = none := x5.gnone hv4 n14
        have n25 : g5.R D = none := x5.rnone hv4 n24
        have x15 := (x13.trans x4).trans x5
        have ek' : (if fits (acc.length + 1) = true then compL body (ds.drop (i + 1)) (acc ++ [y]) else M.bad) wb = .ok out wo := ek
        split at ek'
        · rename_i hz
          have hz' : acc.length + 1 ≤ sizeLine := of_decide_eq_true hz
          have rs5 := ((rs.ext x3).ext x4).ext x5
          refine ⟨vs, hv5, by rw [rs.length]; omega, rfl, hlt, g5, acc ++ [y], vs ++ [v], l5.updO n15 n25, x15.updO hD, upd_same, n15, n25, rs5.append (.cons p .nil), ?_⟩
          rw [ew5, ho]; exact ek'
        · cases ek'
  · left
    have hil : i = ds.length := by omega
    subst hil
    refine ⟨w1, ?_⟩
    rw [List.drop_length] at eq
    have e2 : r0 = .ok acc g2.w := eq.symm
    refine fin acc g2.w e2 g2 H2 rfl l2 x2 _ ⟨⟨D, vs, rfl, hv, n1, n2, rs⟩, fun l a _ e => ?_⟩
    cases e
    cases q : H D with
    | none => rfl
    | some u => exact absurd hD (x1.th D u q)
theorem jx_comp (ok : c.Ok) (hi : JI c fl tg iter fi) (hio : okHead iter = true) (bo : BlkOk c.X.N c.X.env.scope scope own) (hT : ∀ i ∈ T.slots, i ∈ own.map (·.2)) (J : JC c fl tg elt ifs scope T ft fe) :
    JX c fl (.ListComp elt [⟨tg, iter, ifs, 0⟩] scope pos) .O (fComp (own.map (·.2)) T fi ft fe) :=
  ⟨(pe_lc (g := tG c fl T) (tt := tDT (c.blk c.X) (T.fl fl) ft) (te := tD (c.blk c.X) (T.fl fl) .F fe) ok.calm ok.nd hi.pi bo (fun s H C cl fp => (J.g s H C cl fp).pg) (fun s H C cl fp => (J.t s H C cl fp).pts) (fun s H C cl fp => (J.e s H C cl fp).pe) (fold_of hio _)).imp (comp_reads ok hT), rfl⟩
end
end MW
end
section
set_option Elab.async false
set_option autoImplicit false
set_option maxRecDepth 100000
/-! MW11: statements by data. -/
namespace MW
open PySem PySem.Spec PyProof.Rows L2

/-- how a statement ends -/
inductive Fl where
  | nx (ρ : En) | rt (d : D) | bk (ρ : En) | ct (ρ : En)
/-- the frozen part has grown at most -/
def Grow (g g' : Gh) : Prop := Same g.G g'.G ∧ ∀ n a, g.am n = some a → g'.am n = some a
theorem Grow.refl (g : Gh) : Grow g g := ⟨fun _ _ e => e, fun _ _ e => e⟩
theorem Grow.trans {g g1 g2 : Gh} (a : Grow g g1) (b : Grow g1 g2) : Grow g g2 := ⟨fun x o e => b.1 x o (a.1 x o e), fun n x e => b.2 n x (a.2 n x e)⟩
theorem Ext.grow {g g' : Gh} {H H' : Hp} (x : Ext g H g' H') : Grow g g' := ⟨x.gg, x.am⟩
/-- what is wanted behind a statement, by data; flo, flb: which slots are one's own behind it, at a break or continue -/
def OutS (c : Ct) (flo flb : Fls) (D : Ends) (gS : Gh) (r : Rs Fl) : Prop :=
  match r with
  | .ok (.nx ρ) w => ∀ g H σ, g.w = w → Grow gS g → SRel c.P c.g0 c.H0 flo g H σ ρ → D.nx σ H
  | .ok (.rt d) w => ∀ g H v, g.w = w → Lay c.P g H → Ext c.g0 c.H0 g H → Rp c.P g.G g.am v d → D.rt v H
  | .ok (.bk ρ) w => ∀ g H σ, g.w = w → Grow gS g → SRel c.P c.g0 c.H0 flb g H σ ρ → D.bk σ H
  | .ok (.ct ρ) w => ∀ g H σ, g.w = w → Grow gS g → SRel c.P c.g0 c.H0 flb g H σ ρ → D.ct σ H
  | .exc k d w => ∀ g H σ, g.w = w → Lay c.P g H → Ext c.g0 c.H0 g H → c.ew σ k d g H
  | .bad => False
def tS (c : Ct) (fl flo flb : Fls) (f : En → M Fl) : TS := fun D σ H => ∃ g ρ, SRel c.P c.g0 c.H0 fl g H σ ρ ∧ OutS c flo flb D g (f ρ g.w)
structure JS (c : Ct) (fl flo flb : Fls) (st : Stmt) (f : En → M Fl) : Prop where
  ps : PS c.X st (tS c fl flo flb f)
structure JB (c : Ct) (fl flo flb : Fls) (st : List Stmt) (f : En → M Fl) : Prop where
  ps : PSs c.X st (tS c fl flo flb f)
theorem _root_.L2.PS.imp {X : Cx} {e : Stmt} {t t' : TS} (h : PS X e t) (i : ∀ D σ H, t' D σ H → t D σ H) : PS X e t' := ⟨fun pins s σ H D I h' => h.run pins s σ H D I (i D σ H h')⟩
theorem _root_.L2.PSs.imp {X : Cx} {e : List Stmt} {t t' : TS} (h : PSs X e t) (i : ∀ D σ H, t' D σ H → t D σ H) : PSs X e t' := ⟨fun pins s σ H D I h' => h.run pins s σ H D I (i D σ H h')⟩

section
variable {c : Ct} {fl flo flb : Fls} {D : Ends} {σ : L2.St} {H : Hp} {g : Gh} {α : Type}
/-- an expression ahead -/
theorem OutS.grow {gS gT : Gh} {r : Rs Fl} (w : Grow gS gT) (h : OutS c flo flb D gS r) : OutS c flo flb D gT r := by
  cases r with
  | ok a w' =>
    cases a with
    | nx ρ => exact fun g H σ e q S => h g H σ e (w.trans q) S
    | rt d => exact h
    | bk ρ => exact fun g H σ e q S => h g H σ e (w.trans q) S
    | ct ρ => exact fun g H σ e q S => h g H σ e (w.trans q) S
  | exc k d w' => exact h
  | bad => exact h
theorem OutS.bind {m : M α} {k : α → M Fl} (x : Ext c.g0 c.H0 g H) (h : OutS c flo flb D g (M.bind m k g.w)) : Res c.P g H (c.ew σ) (m g.w) fun a g' _ => OutS c flo flb D g' (k a g'.w) := by
  unfold M.bind at h
  cases e : m g.w with
  | ok a w =>
    rw [e] at h
    intro g' H' ew l x'
    subst ew
    exact OutS.grow x'.grow h
  | exc k' d w =>
    rw [e] at h
    intro g' H' ew l x'
    exact h g' H' σ ew l (x.trans x')
  | bad =>
    rw [e] at h
    exact h.elim
end

/-- one statement, then the others -/
def fSeq (f u : En → M Fl) : En → M Fl := fun ρ => M.bind (f ρ) fun r => match r with
  | .nx ρ' => u ρ'
  | r => M.pure r
section
variable {c : Ct} {fl flm flo flb : Fls} {st : Stmt} {sts : List Stmt} {f u : En → M Fl} {e : Expr} {md : Md} {fe : En → M MW.D} {pos p p2 : Pos} {i : Nat} {x : Str}
theorem jb_nil : JB c fl fl flb [] fun ρ => M.pure (.nx ρ) := ⟨pss_nil.imp fun _ _ _ ⟨g, _, S, r⟩ => r g _ _ rfl (Grow.refl g) S⟩
theorem jb_cons (h1 : JS c fl flm flb st f) (h2 : JB c flm flo flb sts u) : JB c fl flo flb (st :: sts) (fSeq f u) := by
  refine ⟨(pss_cons h1.ps h2.ps).imp fun D σ H ⟨g, ρ, S, r⟩ => ⟨g, ρ, S, ?_⟩⟩
  unfold fSeq M.bind at r
  cases q : f ρ g.w with
  | ok a w =>
    rw [q] at r
    cases a with
    | nx ρ' => exact fun g' H' σ' ew gr S' => ⟨g', ρ', S', by rw [ew]; exact OutS.grow gr r⟩
    | rt d => exact r
    | bk ρ' => exact r
    | ct ρ' => exact r
  | exc k d w => rw [q] at r; exact r
  | bad => rw [q] at r; exact r.elim
theorem jb_one (h1 : JS c fl flo flb st f) : JB c fl flo flb [st] f := ⟨pss_one h1.ps⟩
theorem js_pass : JS c fl fl flb (.Pass pos) fun ρ => M.pure (.nx ρ) := ⟨ps_pass.imp fun _ _ _ ⟨g, _, S, r⟩ => r g _ _ rfl (Grow.refl g) S⟩
theorem js_break : JS c fl flo fl (.Break pos) fun ρ => M.pure (.bk ρ) := ⟨ps_break.imp fun _ _ _ ⟨g, _, S, r⟩ => r g _ _ rfl (Grow.refl g) S⟩
theorem js_continue : JS c fl flo fl (.Continue pos) fun ρ => M.pure (.ct ρ) := ⟨ps_continue.imp fun _ _ _ ⟨g, _, S, r⟩ => r g _ _ rfl (Grow.refl g) S⟩

def noComp : Expr → Bool
  | .ListComp _ _ _ _ => false
  | .SetComp _ _ _ _ => false
  | .DictComp _ _ _ _ _ => false
  | _ => true
theorem swap_no (h : noComp e = true) (t : Option Expr) (l : Nat) (env : PySem.Env) : swapsWith e t l env = pure false := by
  cases e <;> first | rfl | exact absurd h (by simp [noComp])
def fSet (i : Nat) (fe : En → M MW.D) : En → M Fl := fun ρ => M.bind (fe ρ) fun d => M.pure (.nx (ρ.set i (some d)))
/-- x = e, frozen -/
theorem js_setF (ok : c.Ok) (hi : c.X.N[i]? = some x) (hx : Loc c.X.env.scope x) (hf : c.X.fn x = true ∨ c.X.env.scope.names.lookup x = some .local) (he : JX c fl e .F fe) (hc : noComp e = true) : JS c fl (fl.set i false) flb (.Assign [.Name x p] e pos) (fSet i fe) := by
  refine ⟨(ps_set ok.nd hi hx he.pe (swap_no hc _ _ _) hf).imp fun D σ H ⟨g, ρ, S, r⟩ => ⟨g, ρ, S, (r.bind S.ext).imp fun d g1 H1 l1 x1 h1 v q => ?_⟩⟩
  exact h1 g1 H1 _ rfl (Grow.refl g1) ((S.to l1 x1).setF q)
/-- x = e, one's own -/
theorem js_setO (ok : c.Ok) (hi : c.X.N[i]? = some x) (hl : i < fl.length) (hx : Loc c.X.env.scope x) (hf : c.X.fn x = true ∨ c.X.env.scope.names.lookup x = some .local) (he : JX c fl e .O fe) (hc : noComp e = true) : JS c fl (fl.set i true) flb (.Assign [.Name x p] e pos) (fSet i fe) := by
  refine ⟨(ps_set ok.nd hi hx he.pe (swap_no hc _ _ _) hf).imp fun D σ H ⟨g, ρ, S, r⟩ => ⟨g, ρ, S, (r.bind S.ext).imp fun d g1 H1 l1 x1 h1 v q => ?_⟩⟩
  exact h1 g1 H1 _ rfl (Grow.refl g1) (S.setO (S.to l1 x1) hl q)
/-- e, its value dropped -/
theorem js_expr (he : JX c fl e md fe) (hc : noComp e = true) : JS c fl fl flb (.Expr e pos) fun ρ => M.bind (fe ρ) fun _ => M.pure (.nx ρ) := by
  refine ⟨(ps_expr he.pe (swap_no hc _ _ _)).imp fun D σ H ⟨g, ρ, S, r⟩ => ⟨g, ρ, S, (r.bind S.ext).imp fun d g1 H1 l1 x1 h1 v q => ?_⟩⟩
  exact h1 g1 H1 _ rfl (Grow.refl g1) (S.to l1 x1)
theorem js_ret (he : JX c fl e .F fe) : JS c fl flo flb (.Return (some e) pos) fun ρ => M.bind (fe ρ) fun d => M.pure (.rt d) := by
  refine ⟨(ps_ret he.pe).imp fun D σ H ⟨g, ρ, S, r⟩ => ⟨g, ρ, S, (r.bind S.ext).imp fun d g1 H1 l1 x1 h1 v q => ?_⟩⟩
  exact h1 g1 H1 v rfl l1 (S.ext.trans x1) q
theorem js_retN : JS c fl flo flb (.Return none pos) fun _ => M.pure (.rt .non) := ⟨ps_retN.imp fun _ _ H ⟨g, _, S, r⟩ => r g H _ rfl S.lay S.ext .non⟩
variable {ft : En → M Bool} {b1 b2 : List Stmt} {f1 f2 : En → M Fl}
/-- if; both ways end with the same slots one's own -/
theorem js_if (ht : JT c fl e ft) (h1 : JB c fl flo flb b1 f1) (h2 : JB c fl flo flb b2 f2) : JS c fl flo flb (.If e b1 b2 pos) fun ρ => M.bind (ft ρ) fun k => if k then f1 ρ else f2 ρ := by
  refine ⟨(ps_if ht.pt h1.ps h2.ps).imp fun D σ H ⟨g, ρ, S, r⟩ => ⟨g, ρ, S, (r.bind S.ext).imp fun k g1 H1 l1 x1 h => ?_⟩⟩
  cases k with
  | true => exact ⟨g1, ρ, S.to l1 x1, h⟩
  | false => exact ⟨g1, ρ, S.to l1 x1, h⟩
/-- raise: the statement's own rule is told elsewhere -/
theorem js_imp {g : En → M Fl} (h : JS c fl flo flb st f) (e : ∀ ρ w, g ρ w ≠ .bad → g ρ w = f ρ w) : JS c fl flo flb st g := ⟨h.ps.imp fun D σ H ⟨gh, ρ, S, r⟩ => ⟨gh, ρ, S, by
  have : g ρ gh.w ≠ .bad := fun q => by rw [q] at r; exact r.elim
  rw [← e ρ gh.w this]; exact r⟩⟩
end
end MW
end
section
set_option Elab.async false
set_option autoImplicit false
set_option maxRecDepth 100000
/-! MW12: slots that cease to be one's own; loops. -/
namespace MW
open PySem PySem.Spec PyProof.Rows L2

section
variable {P : Pm} {g0 g : Gh} {H0 H : Hp} {fl : Fls} {σ : L2.St} {ρ : En}
/-- a slot is one's own no longer -/
theorem SRel.drop (S : SRel P g0 H0 fl g H σ ρ) (i : Nat) : ∃ g', g'.w = g.w ∧ Grow g g' ∧ SRel P g0 H0 (fl.set i false) g' H σ ρ := by
  have keepF : ∀ (j : Nat), (fl.set i false)[j]? ≠ some true → fl[j]? ≠ some true ∨ i = j := fun j h => by
    by_cases q : i = j
    · exact .inr q
    · rw [List.getElem?_set_ne q] at h; exact .inl h
  have keepT : ∀ (j : Nat), (fl.set i false)[j]? = some true → fl[j]? = some true ∧ i ≠ j := fun j h => by
    by_cases q : i = j
    · subst q; exact absurd (get_set_eq h) (by decide)
    · rw [List.getElem?_set_ne q] at h; exact ⟨h, q⟩
  have plain : (∀ l, ρ[i]? = some (some (.lst l)) → fl[i]? ≠ some true) → ∃ g', g'.w = g.w ∧ Grow g g' ∧ SRel P g0 H0 (fl.set i false) g' H σ ρ := fun hn => by
    refine ⟨g, rfl, Grow.refl g, S.lay, S.ext, S.len, fun j e h f => ?_, fun j e h f => S.own j e h (keepT j f).1, fun j k l m v n h1 h2 f1 f2 => S.sep j k l m v n h1 h2 (keepT j f1).1 (keepT k f2).1⟩
    by_cases hj : fl[j]? = some true
    · rcases keepF j f with q | q
      · exact absurd hj q
      · subst q
        obtain ⟨v, h1, h2, _⟩ := S.own i e h hj
        refine ⟨v, h1, ?_⟩
        cases e with
        | lst l => exact absurd hj (hn l h)
        | _ => exact h2
    · exact S.fro j e h hj
  by_cases hf : fl[i]? = some true
  · cases hρ : ρ[i]? with
    | none => exact plain fun l e => by rw [hρ] at e; cases e
    | some o =>
      cases o with
      | none => exact plain fun l e => by rw [hρ] at e; cases e
      | some d =>
        cases d with
        | lst ds =>
          obtain ⟨v, hv, hO, hfr⟩ := S.own i _ hρ hf
          obtain ⟨a, vs, rfl, e3, e4, e5, e6⟩ := hO
          have sg := same_frz (g := g) (o := .lst vs) e4
          refine ⟨g.frz a (.lst vs), rfl, ⟨sg, fun _ _ z => z⟩, S.lay.frz e3 e5, ⟨S.ext.keep, fun b o z => sg b o (S.ext.gg b o z), fun b o z => ?_, S.ext.rn, S.ext.am, S.ext.th⟩, S.len, fun j e h f => ?_, fun j e h f => ?_, fun j k l m u n h1 h2 f1 f2 => S.sep j k l m u n h1 h2 (keepT j f1).1 (keepT k f2).1⟩
          · by_cases q : b = a
            · subst q; exact .inr (hfr ds b rfl rfl)
            · have z' : upd g.G a (.lst vs) b = some o := z
              rw [upd_ne q] at z'; exact S.ext.gn b o z'
          · by_cases hj : fl[j]? = some true
            · rcases keepF j f with q | q
              · exact absurd hj q
              · subst q
                rw [hρ] at h
                cases h
                exact ⟨_, hv, .lst upd_same (e6.mono sg fun _ _ z => z)⟩
            · obtain ⟨u, h1, h2⟩ := S.fro j e h hj
              exact ⟨u, h1, h2.mono sg fun _ _ z => z⟩
          · obtain ⟨f1, nij⟩ := keepT j f
            obtain ⟨u, h1, h2, h3⟩ := S.own j e h f1
            refine ⟨u, h1, ?_, h3⟩
            cases e with
            | lst m =>
              obtain ⟨b, ws, rfl, q3, q4, q5, q6⟩ := h2
              have nab : b ≠ a := fun z => by
                subst z
                exact S.sep i j ds m _ nij hρ h hf f1 hv h1
              exact ⟨b, ws, rfl, q3, by show upd g.G a (.lst vs) b = none; rw [upd_ne nab]; exact q4, q5, q6.mono sg fun _ _ z => z⟩
            | _ => exact Rp.mono sg (fun _ _ z => z) h2
        | _ => exact plain fun l e => by rw [hρ] at e; cases e
  · exact plain fun _ _ => hf
def drops (l : List Nat) (fl : Fls) : Fls := l.foldl (fun fl i => fl.set i false) fl
theorem SRel.drops (l : List Nat) : ∀ {fl : Fls} {g : Gh}, SRel P g0 H0 fl g H σ ρ → ∃ g', g'.w = g.w ∧ Grow g g' ∧ SRel P g0 H0 (MW.drops l fl) g' H σ ρ := by
  induction l with
  | nil => intro fl g S; exact ⟨g, rfl, Grow.refl g, S⟩
  | cons i l ih =>
    intro fl g S
    obtain ⟨g1, e1, w1, S1⟩ := S.drop i
    obtain ⟨g2, e2, w2, S2⟩ := ih S1
    exact ⟨g2, e2.trans e1, w1.trans w2, S2⟩
end
section
variable {c : Ct} {fl flo flb : Fls} {st : Stmt} {sts : List Stmt} {f : En → M Fl} {D : Ends} {gS : Gh} {r : Rs Fl}
theorem JS.dropIn (l : List Nat) (h : JS c (drops l fl) flo flb st f) : JS c fl flo flb st f := ⟨h.ps.imp fun D σ H ⟨g, ρ, S, r⟩ => by
  obtain ⟨g', e, w, S'⟩ := S.drops l
  exact ⟨g', ρ, S', by rw [e]; exact r.grow w⟩⟩
theorem JB.dropIn (l : List Nat) (h : JB c (drops l fl) flo flb sts f) : JB c fl flo flb sts f := ⟨h.ps.imp fun D σ H ⟨g, ρ, S, r⟩ => by
  obtain ⟨g', e, w, S'⟩ := S.drops l
  exact ⟨g', ρ, S', by rw [e]; exact r.grow w⟩⟩
theorem OutS.dropOut (l : List Nat) (h : OutS c (drops l flo) flb D gS r) : OutS c flo flb D gS r := by
  cases r with
  | ok a w =>
    cases a with
    | nx ρ => exact fun g H σ e q S => let ⟨g', e', w', S'⟩ := S.drops l; h g' H σ (e'.trans e) (q.trans w') S'
    | rt d => exact h
    | bk ρ => exact h
    | ct ρ => exact h
  | exc k d w => exact h
  | bad => exact h
theorem JB.dropOut (l : List Nat) (h : JB c fl flo flb sts f) : JB c fl (drops l flo) flb sts f := ⟨h.ps.imp fun _ _ _ ⟨g, ρ, S, r⟩ => ⟨g, ρ, S, r.dropOut l⟩⟩
theorem JS.dropOut (l : List Nat) (h : JS c fl flo flb st f) : JS c fl (drops l flo) flb st f := ⟨h.ps.imp fun _ _ _ ⟨g, ρ, S, r⟩ => ⟨g, ρ, S, r.dropOut l⟩⟩
end

/-! ### for -/
def forL (T : Tg) (fb : En → M Fl) : List D → En → M Fl
  | [], ρ => M.pure (.nx ρ)
  | d :: ds, ρ => M.bind (M.opt (T.put d ρ)) fun ρ1 => M.bind (fb ρ1) fun r => match r with
    | .nx ρ2 => forL T fb ds ρ2
    | .ct ρ2 => forL T fb ds ρ2
    | .bk ρ2 => M.pure (.nx ρ2)
    | .rt d => M.pure (.rt d)
def fFor (T : Tg) (fi : En → M (List D)) (fb : En → M Fl) : En → M Fl := fun ρ => M.bind (fi ρ) fun ds => forL T fb ds ρ
def Ct.Pass (c : Ct) : Prop := PassesOwn (model c.X.prog c.X.w) c.X.A c.X.env c.X.xe
theorem opt_out {c : Ct} {flo flb : Fls} {D : Ends} {g : Gh} {α : Type} {o : Option α} {k : α → M Fl} (h : OutS c flo flb D g (M.bind (M.opt o) k g.w)) : ∃ a, o = some a ∧ OutS c flo flb D g (k a g.w) := by
  cases o with
  | none => exact h.elim
  | some a => exact ⟨a, rfl, h⟩
section
variable {c : Ct} {fl flb : Fls} {tg iter e : Expr} {body : List Stmt} {T : Tg} {fi : En → M (List D)} {fb : En → M Fl} {ft : En → M Bool} {pos : Pos}
/-- what the body of a loop is wanted to give, from what the rest of the loop gives -/
theorem loop_out {fl flb : Fls} {D : Ends} {g : Gh} {r : Rs Fl} {N : L2.St → Hp → Prop} {next : En → M Fl}
    (h : OutS c fl flb D g (match r with
      | .ok (.nx ρ2) w => next ρ2 w
      | .ok (.ct ρ2) w => next ρ2 w
      | .ok (.bk ρ2) w => .ok (.nx ρ2) w
      | .ok (.rt d) w => .ok (.rt d) w
      | .exc k d w => .exc k d w
      | .bad => .bad))
    (hN : ∀ g' H' σ' ρ2, Grow g g' → SRel c.P c.g0 c.H0 fl g' H' σ' ρ2 → OutS c fl flb D g' (next ρ2 g'.w) → N σ' H') :
    OutS c fl fl { D with nx := N, ct := N, bk := D.nx } g r := by
  cases r with
  | ok a w =>
    cases a with
    | nx ρ => exact fun g' H' σ' e q S => hN g' H' σ' ρ q S (by rw [e]; exact OutS.grow q h)
    | rt d => exact h
    | bk ρ => exact h
    | ct ρ => exact fun g' H' σ' e q S => hN g' H' σ' ρ q S (by rw [e]; exact OutS.grow q h)
  | exc k d w => exact h
  | bad => exact h
theorem js_for (ok : c.Ok) (hp : c.Pass) (hi : JI c fl tg iter fi) (hio : okHead iter = true) (hg : JG c fl tg T) (hb : JB c (T.fl fl) fl fl body fb) : JS c fl fl flb (.For tg iter body [] pos) (fFor T fi fb) := by
  refine ⟨(ps_for hp ok.calm hi.pi hg.pg hb.ps (fold_of hio _)).imp fun D σ H ⟨g, ρ, S, r⟩ => ⟨g, ρ, S, (r.bind S.ext).imp fun ds g1 H1 l1 x1 h1 J wk => ?_⟩⟩
  refine ⟨fun i m σ H => m = ds.length - i ∧ i ≤ ds.length ∧ ∃ g2 ρ2, SRel c.P c.g0 c.H0 fl g2 H σ ρ2 ∧ Grow g1 g2 ∧ OutS c fl flb D g2 (forL T fb (ds.drop i) ρ2 g2.w), ⟨_, rfl, Nat.zero_le _, g1, ρ, S.to l1 x1, Grow.refl g1, h1⟩, ?_⟩
  rintro i m σ2 H2 ⟨rfl, hi, g2, ρ2, S2, gr, h2⟩
  obtain ⟨w1, w2⟩ := wk g2 H2 S2.lay gr.1 gr.2
  rcases Nat.lt_or_ge i ds.length with hlt | hge
  · right
    obtain ⟨go, yl⟩ := w2 i _ (List.getElem?_eq_getElem hlt)
    refine ⟨go, fun σ H => ∃ g2 ρ2, SRel c.P c.g0 c.H0 fl g2 H σ ρ2 ∧ Grow g1 g2 ∧ OutS c fl flb D g2 (forL T fb (ds.drop (i + 1)) ρ2 g2.w), fun σ' H' h => ⟨ds.length - (i + 1), by omega, rfl, hlt, h⟩, fun x H3 hy => ?_⟩
    obtain ⟨g3, ew3, l3, x3, r3⟩ := yl x H3 hy
    rw [List.drop_eq_getElem_cons hlt, ← ew3] at h2
    obtain ⟨ρ1, ep, h3⟩ := opt_out (OutS.grow x3.grow h2)
    refine ⟨g3, ρ2, _, ρ1, S2.to l3 x3, r3, ep, fun σ3 _ S3 => ⟨g3, ρ1, S3, ?_⟩⟩
    refine loop_out (next := forL T fb (ds.drop (i + 1))) ?_ fun g' H' σ' ρ3 q S' h' => ⟨g', ρ3, S', (gr.trans x3.grow).trans q, h'⟩
    unfold M.bind at h3
    cases q : fb ρ1 g3.w with
    | ok a w => rw [q] at h3; cases a <;> exact h3
    | exc k d w => rw [q] at h3; exact h3
    | bad => rw [q] at h3; exact h3
  · left
    have hil : i = ds.length := by omega
    subst hil
    rw [List.drop_length] at h2
    exact ⟨w1, h2 g2 H2 σ2 rfl (Grow.refl g2) S2⟩

/-! ### while: a number of turns that is never reached -/
def whL (ft : En → M Bool) (fb : En → M Fl) : Nat → En → M Fl
  | 0, _ => M.bad
  | n + 1, ρ => M.bind (ft ρ) fun k => if k then M.bind (fb ρ) fun r => (match r with
    | .nx ρ2 => whL ft fb n ρ2
    | .ct ρ2 => whL ft fb n ρ2
    | .bk ρ2 => M.pure (.nx ρ2)
    | .rt d => M.pure (.rt d)) else M.pure (.nx ρ)
theorem js_while (hp : c.Pass) (n : Nat) (ht : JT c fl e ft) (hb : JB c fl fl fl body fb) : JS c fl fl flb (.While e body [] pos) (whL ft fb n) := by
  refine ⟨(ps_while hp ht.pt hb.ps).imp fun D σ H ⟨g, ρ, S, r⟩ => ?_⟩
  refine ⟨fun m σ H => ∃ g2 ρ2, SRel c.P c.g0 c.H0 fl g2 H σ ρ2 ∧ OutS c fl flb D g2 (whL ft fb m ρ2 g2.w), ⟨n, g, ρ, S, r⟩, ?_⟩
  rintro m σ2 H2 ⟨g2, ρ2, S2, h2⟩
  cases m with
  | zero => exact h2.elim
  | succ m =>
    refine ⟨g2, ρ2, S2, (OutS.bind S2.ext h2).imp fun k g3 H3 l3 x3 h3 => ?_⟩
    cases k with
    | false => exact h3 g3 H3 σ2 rfl (Grow.refl g3) (S2.to l3 x3)
    | true =>
      refine ⟨fun σ H => ∃ g2 ρ2, SRel c.P c.g0 c.H0 fl g2 H σ ρ2 ∧ OutS c fl flb D g2 (whL ft fb m ρ2 g2.w), fun σ' H' h => ⟨m, Nat.lt_succ_self m, h⟩, g3, ρ2, S2.to l3 x3, ?_⟩
      refine loop_out (next := whL ft fb m) ?_ fun g' H' σ' ρ3 _ S' h' => ⟨g', ρ3, S', h'⟩
      have h4 : OutS c fl flb D g3 (M.bind (fb ρ2) (fun r => match r with
        | .nx ρ2 => whL ft fb m ρ2
        | .ct ρ2 => whL ft fb m ρ2
        | .bk ρ2 => M.pure (.nx ρ2)
        | .rt d => M.pure (.rt d)) g3.w) := h3
      unfold M.bind at h4
      cases q : fb ρ2 g3.w with
      | ok a w => rw [q] at h4; cases a <;> exact h4
      | exc k d w => rw [q] at h4; exact h4
      | bad => rw [q] at h4; exact h4
end
end MW
end
section
set_option Elab.async false
set_option autoImplicit false
set_option maxRecDepth 100000
/-! MW13: lists of one's own are changed; several stores at once. -/
namespace MW
open PySem PySem.Spec PyProof.Rows L2

section
variable {P : Pm} {g0 g : Gh} {H0 H : Hp} {fl : Fls} {σ : L2.St} {ρ : En}
/-- a list of one's own has other items now -/
theorem SRel.mut (S : SRel P g0 H0 fl g H σ ρ) {i : Nat} {a : Addr} {ws : List V} {l m : List D} (hf : fl[i]? = some true) (hρ : ρ[i]? = some (some (.lst l))) (hσ : σ[i]? = some (some (.ref a))) (r : Rps P g.G g.am ws m) :
    SRel P g0 H0 fl g (upd H a (.lst ws)) σ (ρ.set i (some (.lst m))) := by
  obtain ⟨v, hv, ⟨b, us, rfl, e3, e4, e5, _⟩, hfr⟩ := S.own i _ hρ hf
  rw [hσ] at hv
  cases hv
  have fr : H0 a = none := hfr l a rfl rfl
  refine ⟨S.lay.updO e4 e5, S.ext.updO fr, by simp [S.len], fun j e h f => ?_, fun j e h f => ?_, fun j k l' m' v n h1 h2 f1 f2 s1 s2 => ?_⟩
  · by_cases q : i = j
    · subst q; exact absurd hf f
    · rw [List.getElem?_set_ne q] at h
      exact S.fro j e h f
  · by_cases q : i = j
    · subst q
      cases get_set_eq h
      exact ⟨_, hσ, ⟨a, ws, rfl, upd_same, e4, e5, r⟩, fun _ b _ z => by cases z; exact fr⟩
    · rw [List.getElem?_set_ne q] at h
      obtain ⟨u, h1, h2, h3⟩ := S.own j e h f
      refine ⟨u, h1, ?_, h3⟩
      cases e with
      | lst l' =>
        obtain ⟨b, ts, rfl, q3, q4, q5, q6⟩ := h2
        have nab : b ≠ a := fun z => by
          subst z
          exact S.sep i j l l' _ q hρ h hf f hσ h1
        exact ⟨b, ts, rfl, by rw [upd_ne nab]; exact q3, q4, q5, q6⟩
      | _ => exact h2
  · have back : ∀ {j : Nat} {l' : List D}, (ρ.set i (some (.lst m)))[j]? = some (some (.lst l')) → ∃ l'', ρ[j]? = some (some (.lst l'')) := fun {j l'} h => by
      by_cases q : i = j
      · subst q; exact ⟨l, hρ⟩
      · rw [List.getElem?_set_ne q] at h; exact ⟨l', h⟩
    obtain ⟨l1, z1⟩ := back h1
    obtain ⟨l2, z2⟩ := back h2
    exact S.sep j k l1 l2 v n z1 z2 f1 f2 s1 s2
end
def lstAt (ρ : En) (i : Nat) : Option (List D) := match ρ[i]? with
  | some (some (.lst l)) => some l
  | _ => none
theorem lstAt_ok {ρ : En} {i : Nat} {l : List D} (h : lstAt ρ i = some l) : ρ[i]? = some (some (.lst l)) := by
  unfold lstAt at h
  split at h
  · cases h; assumption
  · cases h
def fApp (i : Nat) (fe : En → M D) : En → M Fl := fun ρ => M.bind (M.opt (lstAt ρ i)) fun l => M.bind (fe ρ) fun y => if fits (l.length + 1) then M.pure (.nx (ρ.set i (some (.lst (l ++ [y]))))) else M.bad
section
variable {c : Ct} {fl flo flb : Fls} {e a b : Expr} {md ma : Md} {fe fa : En → M D} {pos p p1 p2 p3 : Pos} {i : Nat} {x : Str}
theorem few_of {es : List Expr} (h : es.all okHead = true) (hl : es.length < 30) (env : PySem.Env) (cpos : Pos) : ((backTo cpos (starEach es env)).all (fun x => !x.1) && (backToKw cpos (keywordEach [] env)).all (fun x => x.1.isSome)
      && decide (es.length + ([] : List Keyword).length + (if ([] : List Keyword).isEmpty then 0 else 1) < 30)) = true := by
  have h1 : (backTo cpos (starEach es env)).all (fun x => !x.1) = true := by
    have := noStar h env cpos
    rw [List.all_eq_not_any_not]
    simpa using this
  rw [h1]
  simp [backToKw, keywordEach, hl]
/-- x.append(e) -/
theorem js_app (ok : c.Ok) (hN : c.X.N[i]? = some x) (hv : Vis c.X.env.scope x) (hd : (x == ("__debug__" : Str)) = false) (hcd : (x == ("__classdict__" : Str)) = false) (hf : fl[i]? = some true) (he : JX c fl e .F fe) (hline : (p2.endLine == p3.line) = true) :
    JS c fl fl flb (.Expr (.Call (.Attribute (.Name x p1) "append" p2) [e] [] p3) pos) (fApp i fe) := by
  refine ⟨(ps_expr (pe_bm PySem.F.plainAttrs_list PySem.F.slot_list_append PySem.F.type_list_append mt_append (pe_var hN hv hd hcd) (pa_cons he.pe pa_nil (star_of he.hd _ _)) (hfew := few_of (by simp [he.hd]) (by simp) _ _) (hline := hline) (hs := star_of he.hd _ _)) rfl).imp fun D σ H ⟨g, ρ, S, r⟩ => ?_⟩
  obtain ⟨l, el, r1⟩ := opt_out r
  have hρ := lstAt_ok el
  obtain ⟨v, hσ, hO, _⟩ := S.own i _ hρ hf
  obtain ⟨a, vs, rfl, e3, e4, e5, e6⟩ := hO
  refine ⟨_, hσ, .inl ⟨rfl, vs, SqL.of e3⟩, g, ρ, S, (OutS.bind S.ext r1).imp fun y g2 H2 l2 x2 h2 v p => ?_⟩
  split at h2
  · rename_i hz
    have hz' : l.length + 1 ≤ sizeLine := of_decide_eq_true hz
    have S2 := S.to l2 x2
    refine ⟨a, vs, v, rfl, rfl, x2.keep _ _ e3 e5, by rw [e6.length]; omega, ?_⟩
    exact h2 g2 _ σ rfl (Grow.refl g2) (S2.mut hf hρ hσ ((e6.ext x2).append (.cons p .nil)))
  · exact h2.elim
end

/-! ### several stores at once -/
def setV : List Nat → List V → L2.St → L2.St
  | i :: l, v :: vs, σ => setV l vs (σ.set i (some v))
  | _, _, σ => σ
def setE : List Nat → List D → En → En
  | i :: l, d :: ds, ρ => setE l ds (ρ.set i (some d))
  | _, _, ρ => ρ
def setMs : List (Nat × Bool) → Fls → Fls
  | [], fl => fl
  | (i, o) :: l, fl => setMs l (fl.set i o)
def mdOf (o : Bool) : Md := if o then .O else .F
/-- values for slots, the ones frozen, the others one's own -/
structure JR (c : Ct) (fl : Fls) (es : List Expr) (l : List (Nat × Bool)) (f : En → M (List D)) : Prop where
  pa : PA c.X es fun σ H Q => ∃ g ρ σp ρp flp, SRel c.P c.g0 c.H0 fl g H σ ρ ∧ SRel c.P c.g0 c.H0 flp g H σp ρp ∧ (∀ p ∈ l, p.1 < flp.length) ∧
    Res c.P g H (c.ew σ) (f ρ g.w) fun ds g' H' => ∀ vs, vs.length = l.length → ds.length = l.length → SRel c.P c.g0 c.H0 (setMs l flp) g' H' (setV (l.map (·.1)) vs σp) (setE (l.map (·.1)) ds ρp) → Q vs H'
section
variable {c : Ct} {fl flo flb : Fls} {e a b : Expr} {es : List Expr} {md ma : Md} {fe fa : En → M D} {fs : En → M (List D)} {pos p p1 p2 p3 : Pos} {i : Nat} {x : Str} {l : List (Nat × Bool)}
theorem jr_nil : JR c fl [] [] fun _ => M.pure [] := ⟨pa_nil.imp fun _ _ _ ⟨_, _, _, _, _, S, Sp, _, r⟩ => r.pure S.lay [] rfl rfl Sp⟩
theorem jr_cons (o : Bool) (ha : JX c fl a (mdOf o) fa) (hs : JR c fl es l fs) : JR c fl (a :: es) ((i, o) :: l) fun ρ => M.bind (fa ρ) fun x => M.bind (fs ρ) fun xs => M.pure (x :: xs) := by
  refine ⟨(pa_cons ha.pe hs.pa (star_of ha.hd _ _)).imp fun σ H Q ⟨g, ρ, σp, ρp, flp, S, Sp, hl, r⟩ => ⟨g, ρ, S, r.bind.imp fun d1 g1 H1 l1 x1 h1 v q => ?_⟩⟩
  have Sp1 : SRel c.P c.g0 c.H0 (flp.set i o) g1 H1 (σp.set i (some v)) (ρp.set i (some d1)) := by
    cases o with
    | false => exact (Sp.to l1 x1).setF q
    | true => exact Sp.setO (Sp.to l1 x1) (hl (i, true) List.mem_cons_self) q
  refine ⟨g1, ρ, σp.set i (some v), ρp.set i (some d1), flp.set i o, S.to l1 x1, Sp1, fun p hp => by rw [List.length_set]; exact hl p (List.mem_cons_of_mem _ hp), h1.bind.imp fun ds g2 H2 l2 x2 h2 vs n1 n2 S2 => ?_⟩
  exact h2.pure l2 (v :: vs) (congrArg (· + 1) n1) (congrArg (· + 1) n2) S2
def fPar (is : List Nat) (fs : En → M (List D)) : En → M Fl := fun ρ => M.bind (fs ρ) fun ds => if ds.length = is.length then M.pure (.nx (setE is ds ρ)) else M.bad
theorem js_par2 {i j : Nat} {oi oj : Bool} {x y : Str} {px py pt : Pos} {kt k2 : Nat} {pt2 : Pos} (ok : c.Ok) (hi : c.X.N[i]? = some x) (hj : c.X.N[j]? = some y) (hij : i ≠ j) (hil : i < fl.length) (hjl : j < fl.length)
    (hx : c.X.env.scope.names.lookup x = some .local) (hy : c.X.env.scope.names.lookup y = some .local) (ha : JR c fl [a, b] [(i, oi), (j, oj)] fs)
    (hw : swappedStores [.Tuple [.Name x px, .Name y py] kt pt] (.Tuple [a, b] k2 pt2) c.X.env = pure (some [x, y])) :
    JS c fl (setMs [(i, oi), (j, oj)] fl) flb (.Assign [.Tuple [.Name x px, .Name y py] kt pt] (.Tuple [a, b] k2 pt2) pos) (fPar [i, j] fs) := by
  refine ⟨(ps_par ok.calm ok.nd hi hj hij hx hy ha.pa hw).imp fun D σ H ⟨g, ρ, S, r⟩ => ⟨g, ρ, σ, ρ, fl, S, S, ?_, (r.bind S.ext).imp fun ds g1 H1 l1 x1 h1 vs n1 n2 S1 => ?_⟩⟩
  · intro q hq
    rcases List.mem_cons.mp hq with rfl | hq
    · exact hil
    · rw [List.mem_singleton.mp hq]; exact hjl
  · match vs, n1 with
    | [v, u], _ =>
      have n2' : ds.length = [i, j].length := n2
      rw [if_pos n2'] at h1
      exact ⟨v, u, rfl, h1 g1 H1 _ rfl (Grow.refl g1) S1⟩
/-- names as targets, stored from the left -/
structure JN (c : Ct) (ts : List Expr) (is : List Nat) : Prop where
  pgs : PGs c.X ts fun vs σ H Q => vs.length = is.length ∧ Q (setV is vs σ) H
  len : (assignEach ts c.X.env).length = is.length
  pl : (assignEach ts c.X.env).findIdx? (·.1) = none
theorem jn_nil : JN c [] [] := ⟨pgs_nil.imp fun vs σ H Q ⟨h1, h2⟩ => ⟨List.eq_nil_of_length_eq_zero h1, by rw [List.eq_nil_of_length_eq_zero h1] at h2; exact h2⟩, rfl, rfl⟩
theorem jn_cons {ts : List Expr} {is : List Nat} (ok : c.Ok) (hi : c.X.N[i]? = some x) (hx : Loc c.X.env.scope x) (hf : c.X.fn x = true ∨ c.X.env.scope.names.lookup x = some .local) (h : JN c ts is) : JN c (Expr.Name x p :: ts) (i :: is) := by
  refine ⟨(pgs_cons (pg_name ok.nd hi hx hf) h.pgs).imp fun vs σ H Q ⟨h1, h2⟩ => ?_, congrArg (· + 1) h.len, ?_⟩
  · cases vs with
    | nil => cases h1
    | cons v vs => exact ⟨v, vs, rfl, Nat.succ.inj h1, h2⟩
  · have e : assignEach (Expr.Name x p :: ts) c.X.env = (false, assign (Expr.Name x p) c.X.env) :: assignEach ts c.X.env := rfl
    rw [e, List.findIdx?_cons, h.pl]; rfl
/-- a tuple is made and taken apart -/
theorem js_parN {ts : List Expr} {kt k2 : Nat} {pt pt2 : Pos} (ok : c.Ok) (hn : JN c ts (l.map (·.1))) (hl : ∀ p ∈ l, p.1 < fl.length) (hz : fits l.length = true) (ha : JR c fl es l fs) (hw : swappedStores [Expr.Tuple ts kt pt] (Expr.Tuple es k2 pt2) c.X.env = pure none) :
    JS c fl (setMs l fl) flb (.Assign [Expr.Tuple ts kt pt] (Expr.Tuple es k2 pt2) pos) (fPar (l.map (·.1)) fs) := by
  have pg := pg_tup (k := kt) (pos := pt) ok.calm hn.pgs hn.len hn.pl
  refine ⟨(ps_asg (pe_tup ha.pa) pg rfl hw rfl).imp fun D σ H ⟨g, ρ, S, r⟩ => ⟨g, ρ, σ, ρ, fl, S, S, hl, (r.bind S.ext).imp fun ds g1 H1 l1 x1 h1 vs n1 n2 S1 => ?_⟩⟩
  rw [if_pos (by rw [List.length_map]; exact n2)] at h1
  refine ⟨by rw [n1]; exact of_decide_eq_true hz, fun p hp => ⟨p, vs, rfl, SqT.of upd_same, by rw [List.length_map]; exact n1, by rw [List.length_map]; exact n1, ?_⟩⟩
  exact h1 g1 _ _ rfl (Grow.refl g1) (S1.to (l1.new hp) (Ext.new hp))
end
end MW
end
section
set_option Elab.async false
set_option autoImplicit false
set_option maxRecDepth 100000
/-! MW14: a def keeps its promise by data, by its body. -/
namespace MW
open PySem PySem.Spec PyProof.Rows L2

/-- the slots at the entry -/
def startD (n : Nat) (ds : List D) : En := ds.map some ++ List.replicate (n - ds.length) none
/-- a body's end is a value -/
def endF (n : Nat) (f : En → M Fl) (ds : List D) : M D := M.bind (f (startD n ds)) fun r => match r with
  | .nx _ => M.pure .non
  | .rt d => M.pure d
  | _ => M.bad
/-- a def with n parameters and N names -/
def defF (n N : Nat) (f : En → M Fl) : List D → M D := fun ds => if ds.length = n then endF N f ds else M.bad
def noFl (n : Nat) : Fls := List.replicate n false

/-- what a body may lean on -/
structure Here (Pg : Program) (wd : World) (K : PySem.W.Frag) (mg : Str → Option Value) (base : Heap) (k : Nat) (N : List Str) (sc : Scope) (P : Pm) (c : Ct) : Prop where
  ok : c.Ok
  ps : c.Pass
  pg : c.X.prog = Pg
  wd : c.X.w = wd
  K : c.X.K = K
  mg : c.X.mg = mg
  bs : c.X.base = base
  N : c.X.N = N
  sc : c.X.env.scope = sc
  rm : Room k c.X.A
  P : c.P = P
  fn : c.X.fn = fun _ => true
  stk : c.X.stack = c.X.env :: c.X.outer
  frm : c.X.env.frame = some c.X.env.locals
  kd : c.X.env.scope.kind = .function

section
variable {Pg : Program} {wd : World} {K : PySem.W.Frag} {mg : Str → Option Value} {base : Heap}
theorem start_len {N : List Str} {vs : List V} (h : vs.length ≤ N.length) : (L2.start N vs).length = N.length := by
  unfold L2.start
  simp
  omega
theorem startD_len {n : Nat} {ds : List D} (h : ds.length ≤ n) : (startD n ds).length = n := by
  unfold startD
  simp
  omega
theorem noFl_get {n i : Nat} : (noFl n)[i]? ≠ some true := by
  unfold noFl
  rw [List.getElem?_replicate]
  split <;> simp
theorem start_rel {P : Pm} {g : Gh} {H : Hp} {N : List Str} {vs : List V} {ds : List D} (l : Lay P g H) (r : Rps P g.G g.am vs ds) (hn : ds.length ≤ N.length) : SRel P g H (noFl N.length) g H (L2.start N vs) (startD N.length ds) where
  lay := l
  ext := Ext.refl g H
  len := by rw [start_len (by rw [r.length]; exact hn), startD_len hn]
  fro := fun i d e _ => by
    unfold startD at e
    by_cases q : i < ds.length
    · rw [List.getElem?_append_left (by simpa using q), List.getElem?_map] at e
      obtain ⟨d', e1, e2⟩ := Option.map_eq_some_iff.mp e
      cases e2
      obtain ⟨v, h1, h2⟩ := r.get e1
      refine ⟨v, ?_, h2⟩
      unfold L2.start
      rw [List.getElem?_append_left (by rw [List.length_map, r.length]; exact q), List.getElem?_map, h1]; rfl
    · rw [List.getElem?_append_right (by simpa using q), List.getElem?_replicate] at e
      split at e <;> cases e
  own := fun i d _ f => absurd f noFl_get
  sep := fun i j l m v _ _ _ f _ _ _ => absurd f noFl_get
/-- THE RULE: a def of the text, by its body -/
theorem fn_body {k : Nat} {f : Addr} {fd : FuncData} {x qual : Str} {st : Stmt} {N ps : List Str} {P : Pm} {fb : En → M Fl} (F : Fun K x qual st f fd) (S : FnScope N ps (defScope st)) (hP : P.K = K) (hsm : ∃ o, base.get? sysModules = some o)
    (hnp : ps.length ≤ N.length)
    (hb : ∀ c, Here Pg wd K mg base k N (defScope st) P c → ∃ flo flb, JB c (noFl N.length) flo flb (defBody st) fb) :
    FnG Pg wd K mg base (k + 1) f fd ps (spM P (defF ps.length N.length fb)) := by
  obtain ⟨oc, od, kV, doc, pm, an, cdv, ct, osl, rfl, lk, hcd⟩ := F.ex
  have argLen : ∀ {vs : List V} {H : Hp} {Q : VK} {E : XK}, spM P (defF ps.length N.length fb) vs H Q E → vs.length = ps.length := fun {vs H Q E} ⟨g, ds, l, r, h⟩ => by
    rw [r.length]
    by_cases q : ds.length = ps.length
    · exact q
    · unfold defF at h
      rw [if_neg q] at h
      exact h.elim
  refine ⟨fun vs H Q E h => argLen h, fun A outer s H args us vs Q E hr hgd e0 hbind hv hsp => ?_⟩
  have nargs := argLen hsp
  have inHeap : ∀ b o, base.get? b = some o → s.heap.get? b = some o := fun b o z => (e0.bs b o z).1
  have Kin := e0.mod.kin.keeps inHeap
  have kinds : ∀ y ∈ ps.zip us, (defScope st).names.lookup y.1 = some .local ∨ ((defScope st).names.lookup y.1 = some .cell ∧ ((cellsFrom (s.heap.objs.size + 1) (defScope st).names []).lookup y.1).isSome = true) := by
    rintro ⟨y, u⟩ hy
    rcases S.par y (List.of_mem_zip hy).1 with z | z
    · exact .inl z
    · exact .inr ⟨z, PySem.W.cellsFrom_some _ _ _ (.inl z)⟩
  refine codeAny_call_function hr.depth (Kin _ _ lk) rfl S.co S.gen rfl (PySem.W.codeRec_of Kin hcd) (hbind _ _ _ _ ?_)
  refine wpAny_newFunctionEnv_cells S.kind kinds fun env henv s1 inC => ?_
  subst henv
  refine ⟨(e0.mod.nolimit.keeps inHeap).keeps inC.toInCall.keep, codeAny_func ?_⟩
  obtain ⟨g, ds, l, r, res⟩ := hsp
  have nds : ds.length = ps.length := by rw [← r.length]; exact nargs
  have hr' := hr.deeper (envOfC qual (defScope st) s.heap.objs.size f cdv)
  let X : Cx := cxOf (L2.CX Pg wd) Pg wd K mg base N qual (defScope st) f cdv A outer s H E
  let c : Ct := { X := X, P := P, g0 := g, H0 := H, W := fun cls d _ H' => E cls d H' }
  have here : Here Pg wd K mg base k N (defScope st) P c := by
    refine ⟨⟨hP.symm, rfl, S.nd, ?_, hgd, takes_of rfl rfl rfl rfl, hsm⟩, passes_of (X := X) rfl, rfl, rfl, rfl, rfl, rfl, rfl, rfl, hr', rfl, rfl, rfl, rfl, S.kind⟩
    have := hr'.un
    show (A.deeper (envOfC qual (defScope st) s.heap.objs.size f cdv)).units + 200 < cLine
    omega
  obtain ⟨flo, flb, J⟩ := hb c here
  have I : L2.Inv X [] (L2.start N vs) H s1 := inv_start S hr.hd e0 nargs hv inC
  have body : tS c (noFl N.length) flo flb fb { nx := fun _ H' => Q .non H', rt := Q } (L2.start N vs) H := by
    refine ⟨g, startD N.length ds, start_rel l r (by omega), ?_⟩
    unfold defF at res
    rw [if_pos nds] at res
    unfold endF M.bind at res
    cases q : fb (startD N.length ds) g.w with
    | ok a w =>
      rw [q] at res
      cases a with
      | nx ρ => exact fun g' H' _ e _ S' => res g' H' e S'.lay S'.ext _ .non
      | rt d => exact fun g' H' v e l' x' p => res g' H' e l' x' v p
      | bk ρ => exact res.elim
      | ct ρ => exact res.elim
    | exc k d w =>
      rw [q] at res
      exact fun g' H' _ e l' x' => res g' H' e l' x'
    | bad =>
      rw [q] at res
      exact res.elim
  refine wpAny_mono (J.ps.run [] s1 (L2.start N vs) H _ I body) (fun fw s2 h2 => ?_) fun u s2 h2 => h2
  have close : ∀ {σ' : L2.St} {H' : Hp} {v : V} {u : Value}, L2.Inv X [] σ' H' s2 → RelV v u → Q v H' → CE outer Pg wd H s Q u s2 := fun {_ H' v _} J' rv q => ⟨v, H', J'.os, J'.bare, J'.base, J'.hok, rv, q⟩
  cases fw with
  | ret u => obtain ⟨v, σ', H', J', rv, q⟩ := h2; exact close J' rv q
  | next => obtain ⟨σ', H', J', q⟩ := h2; exact close (v := .non) (u := .none) J' rfl q
  | brk => obtain ⟨σ', H', J', q⟩ := h2; exact q.elim
  | cont => obtain ⟨σ', H', J', q⟩ := h2; exact q.elim
end
end MW
end
section
set_option Elab.async false
set_option autoImplicit false
set_option maxRecDepth 100000
/-! MW19: more stores: three at once, to places of lists, taken apart, a comprehension stored. -/
namespace MW
open PySem PySem.Spec PyProof.Rows L2
section
variable {c : Ct} {fl flo flb : Fls} {a b d e : Expr} {es : List Expr} {md ma : Md} {fe fa : En → M D} {fs : En → M (List D)} {pos p p1 p2 p3 : Pos} {i : Nat} {x : Str}
theorem js_par3 {i j k : Nat} {oi oj ok' : Bool} {x y z : Str} {px py pz pt : Pos} {kt k2 : Nat} {pt2 : Pos} (ok : c.Ok) (hi : c.X.N[i]? = some x) (hj : c.X.N[j]? = some y) (hk : c.X.N[k]? = some z) (hij : i ≠ j) (hik : i ≠ k) (hjk : j ≠ k) (hil : i < fl.length) (hjl : j < fl.length) (hkl : k < fl.length)
    (hx : c.X.env.scope.names.lookup x = some .local) (hy : c.X.env.scope.names.lookup y = some .local) (hz : c.X.env.scope.names.lookup z = some .local) (ha : JR c fl [a, b, d] [(i, oi), (j, oj), (k, ok')] fs)
    (hw : swappedStores [.Tuple [.Name x px, .Name y py, .Name z pz] kt pt] (.Tuple [a, b, d] k2 pt2) c.X.env = pure (some [x, y, z])) :
    JS c fl (setMs [(i, oi), (j, oj), (k, ok')] fl) flb (.Assign [.Tuple [.Name x px, .Name y py, .Name z pz] kt pt] (.Tuple [a, b, d] k2 pt2) pos) (fPar [i, j, k] fs) := by
  refine ⟨(ps_par3 ok.calm ok.nd hi hj hk hij hik hjk hx hy hz ha.pa hw).imp fun D σ H ⟨g, ρ, S, r⟩ => ⟨g, ρ, σ, ρ, fl, S, S, ?_, (r.bind S.ext).imp fun ds g1 H1 l1 x1 h1 vs n1 n2 S1 => ?_⟩⟩
  · intro q hq
    rcases List.mem_cons.mp hq with rfl | hq
    · exact hil
    · rcases List.mem_cons.mp hq with rfl | hq
      · exact hjl
      · rw [List.mem_singleton.mp hq]; exact hkl
  · match vs, n1 with
    | [v, u, w], _ =>
      have n2' : ds.length = [i, j, k].length := n2
      rw [if_pos n2'] at h1
      exact ⟨v, u, w, rfl, h1 g1 H1 _ rfl (Grow.refl g1) S1⟩
end

theorem OutS.bind0 {c : Ct} {flo flb : Fls} {D : Ends} {σ : L2.St} {H : Hp} {g : Gh} {α : Type} {m : M α} {k : α → M Fl} (x : Ext c.g0 c.H0 g H) (h : OutS c flo flb D g (M.bind m k g.w)) : Res c.P g H (c.ew σ) (m g.w) fun a g' _ => OutS c flo flb D g (k a g'.w) := by
  unfold M.bind at h
  cases e : m g.w with
  | ok a w =>
    rw [e] at h
    intro g' H' ew l x'
    subst ew
    exact h
  | exc k' d w =>
    rw [e] at h
    intro g' H' ew l x'
    exact h g' H' σ ew l (x.trans x')
  | bad =>
    rw [e] at h
    exact h.elim

/-! ### targets of all kinds, frozen values -/
/-- behind a store -/
def UU (c : Ct) (fl : Fls) (gS : Gh) (r : Rs En) (Q : L2.St → Hp → Prop) : Prop :=
  match r with
  | .ok ρ w => ∀ g H σ, g.w = w → Grow gS g → SRel c.P c.g0 c.H0 fl g H σ ρ → Q σ H
  | _ => False
theorem UU.bind {c : Ct} {fl : Fls} {g : Gh} {α : Type} {m : M α} {k : α → M En} {Q : L2.St → Hp → Prop} (h : UU c fl g (M.bind m k g.w) Q) : ∃ a w, m g.w = .ok a w ∧ UU c fl g (k a w) Q := by
  unfold M.bind at h
  cases e : m g.w with
  | ok a w => rw [e] at h; exact ⟨a, w, rfl, h⟩
  | exc k d w => rw [e] at h; exact h.elim
  | bad => rw [e] at h; exact h.elim
theorem UU.grow {c : Ct} {fl : Fls} {g g1 : Gh} {r : Rs En} {Q : L2.St → Hp → Prop} (w : Grow g g1) (h : UU c fl g r Q) : UU c fl g1 r Q := by
  cases r with
  | ok ρ w' => exact fun g' H σ e gr S => h g' H σ e (w.trans gr) S
  | exc _ _ _ => exact h
  | bad => exact h
/-- one target -/
structure JU1 (c : Ct) (fl fl' : Fls) (t : Expr) (f : D → En → M En) : Prop where
  pg : PG c.X t fun v σ H Q => ∃ g ρ d, SRel c.P c.g0 c.H0 fl g H σ ρ ∧ Rp c.P g.G g.am v d ∧ UU c fl' g (f d ρ g.w) Q
structure JU (c : Ct) (fl fl' : Fls) (ts : List Expr) (f : List D → En → M En) : Prop where
  pgs : PGs c.X ts fun vs σ H Q => ∃ g ρ ds, SRel c.P c.g0 c.H0 fl g H σ ρ ∧ Rps c.P g.G g.am vs ds ∧ UU c fl' g (f ds ρ g.w) Q
  pl : (assignEach ts c.X.env).findIdx? (·.1) = none
  len : (assignEach ts c.X.env).length = ts.length
def fPutN (i : Nat) : D → En → M En := fun d ρ => M.pure (ρ.set i (some d))
def setAt (l : List D) (d : D) : D → Option (List D)
  | .int k => (ixN l.length k).map fun j => l.set j d
  | _ => none
def fPutS (i : Nat) (fk : En → M D) : D → En → M En := fun d ρ => M.bind (fk ρ) fun k => M.bind (M.opt (lstAt ρ i)) fun l => M.bind (M.opt (setAt l d k)) fun l' => M.pure (ρ.set i (some (.lst l')))
def fPutNil : List D → En → M En := fun ds ρ => match ds with
  | [] => M.pure ρ
  | _ => M.bad
def fPutCons (f : D → En → M En) (fs : List D → En → M En) : List D → En → M En := fun ds ρ => match ds with
  | d :: ds => M.bind (f d ρ) fun ρ1 => fs ds ρ1
  | [] => M.bad
def fPutT (n : Nat) (fs : List D → En → M En) : D → En → M En := fun d ρ => match d with
  | .tup ds => if ds.length = n then fs ds ρ else M.bad
  | _ => M.bad
def fAsg (f : D → En → M En) (fe : En → M D) : En → M Fl := fun ρ => M.bind (fe ρ) fun d => M.bind (M.quiet (f d ρ)) fun ρ' => M.pure (.nx ρ')
section
variable {c : Ct} {fl fl1 fl' flb : Fls} {t e a : Expr} {ts : List Expr} {mk : Md} {fe fk : En → M D} {f : D → En → M En} {fs : List D → En → M En} {pos p : Pos} {i : Nat} {x : Str}
theorem ju_name (ok : c.Ok) (hi : c.X.N[i]? = some x) (hx : L2.Loc c.X.env.scope x) (hf : c.X.fn x = true ∨ c.X.env.scope.names.lookup x = some .local) : JU1 c fl (fl.set i false) (.Name x pos) (fPutN i) :=
  ⟨(pg_name ok.nd hi hx hf).imp fun _ _ _ _ ⟨g, _, _, S, r, u⟩ => u g _ _ rfl (Grow.refl g) (S.setF r)⟩
theorem ju_sub (hN : c.X.N[i]? = some x) (hv : Vis c.X.env.scope x) (hd : (x == ("__debug__" : Str)) = false) (hcd : (x == ("__classdict__" : Str)) = false) (hf : fl[i]? = some true) (hk : JX c fl a mk fk)
    (ha : ∀ v, assign (.Subscript (.Name x p) a pos) c.X.env v = (do
      let ov ← holding [v] (eval (.Name x p) c.X.env)
      let iv ← holding [v, ov] (eval a c.X.env)
      standAt pos
      holding [v, ov, iv] (setItem ov iv v)
      release [v, ov, iv] []) := by intro _; rfl) : JU1 c fl fl (.Subscript (.Name x p) a pos) (fPutS i fk) := by
  refine ⟨(pg_sub (pe_var hN hv hd hcd) hk.pe set_list ha).imp fun v σ H Q ⟨g, ρ, d, S, r, u⟩ => ?_⟩
  obtain ⟨k, w1, e1, u⟩ := u.bind
  have u' : UU c fl g (M.bind (M.opt (lstAt ρ i)) (fun l => M.bind (M.opt (setAt l d k)) fun l' => M.pure (ρ.set i (some (.lst l')))) w1) Q := u
  cases el : lstAt ρ i with
  | none => rw [el] at u'; exact u'.elim
  | some l =>
    rw [el] at u'
    have u2 : UU c fl g (M.bind (M.opt (setAt l d k)) (fun l' => M.pure (ρ.set i (some (.lst l')))) w1) Q := u'
    cases em : setAt l d k with
    | none => rw [em] at u2; exact u2.elim
    | some m =>
      rw [em] at u2
      have hρ := lstAt_ok el
      obtain ⟨v0, hσ, hO, _⟩ := S.own i _ hρ hf
      obtain ⟨q, vs, rfl, e3, e4, e5, e6⟩ := hO
      refine ⟨_, hσ, g, ρ, S, ?_⟩
      rw [e1]
      intro g2 H2 ew l2 x2 vk pk
      cases k with
      | int j =>
        have em' : (ixN l.length j).map (fun j => l.set j d) = some m := em
        cases ej : ixN l.length j with
        | none => rw [ej] at em'; cases em'
        | some n =>
          rw [ej] at em'
          cases em'
          have ev : vk = .int j := (show Post c.P H .P g2 H2 vk (.int j) from pk.toP).int
          refine ⟨q, vs, j, n, rfl, ev, x2.keep _ _ e3 e5, by rw [e6.length]; exact ej, ?_⟩
          exact u2 g2 _ σ ew x2.grow ((S.to l2 x2).mut hf hρ hσ (Rps.set n (e6.ext x2) (r.ext x2)))
      | _ => cases em
theorem ju_nil : JU c fl fl [] fPutNil := ⟨pgs_nil.imp fun vs σ H Q ⟨g, ρ, ds, S, r, u⟩ => by
    cases r with
    | nil => exact ⟨rfl, u g H σ rfl (Grow.refl g) S⟩
    | cons _ _ => exact u.elim, rfl, rfl⟩
theorem ju_cons (h : JU1 c fl fl1 t f) (hs : JU c fl1 fl' ts fs) (hp : assignEach (t :: ts) c.X.env = (false, assign t c.X.env) :: assignEach ts c.X.env) : JU c fl fl' (t :: ts) (fPutCons f fs) := by
  refine ⟨(pgs_cons h.pg hs.pgs (by rw [hp]; rfl)).imp fun vs σ H Q ⟨g, ρ, ds, S, r, u⟩ => ?_, ?_, ?_⟩
  · cases r with
    | nil => exact u.elim
    | @cons v vs d ds r1 r2 =>
      obtain ⟨ρ1, w1, e1, u⟩ := UU.bind (show UU c fl' g (M.bind (f d ρ) (fun ρ1 => fs ds ρ1) g.w) Q from u)
      refine ⟨v, vs, rfl, g, ρ, d, S, r1, ?_⟩
      rw [e1]
      intro g1 H1 σ1 ew gr S1
      exact ⟨g1, ρ1, ds, S1, r2.mono gr.1 gr.2, ew ▸ u.grow gr⟩
  · rw [hp, List.findIdx?_cons, hs.pl]; rfl
  · rw [hp, List.length_cons, hs.len]; rfl
/-- a tuple of targets -/
theorem ju_tup (ok : c.Ok) {n k : Nat} (hs : JU c fl fl' ts fs) (hn : ts.length = n) : JU1 c fl fl' (.Tuple ts k pos) (fPutT n fs) := by
  refine ⟨(pg_tup ok.calm hs.pgs hs.len hs.pl).imp fun v σ H Q ⟨g, ρ, d, S, r, u⟩ => ?_⟩
  cases r with
  | @tup a vs ds q r =>
    have u' : UU c fl' g ((if ds.length = n then fs ds ρ else M.bad) g.w) Q := u
    split at u'
    · rename_i hz
      exact ⟨a, vs, rfl, ok.hK ▸ SqT.mono S.lay.gh q, by rw [r.length, hz, hn], g, ρ, ds, S, r, u'⟩
    · exact u'.elim
  | _ => exact u.elim
/-- target = e -/
theorem js_asg (ht : JU1 c fl fl' t f) (he : JX c fl e .F fe) (hs : swapsWithSole [t] e pos.line c.X.env = pure false) (hw : swappedStores [t] e c.X.env = pure none) (h1 : (assignEach [t] c.X.env).map (·.2) = [assign t c.X.env]) :
    JS c fl fl' flb (.Assign [t] e pos) (fAsg f fe) := by
  refine ⟨(ps_asg he.pe ht.pg hs hw h1).imp fun D σ H ⟨g, ρ, S, r⟩ => ⟨g, ρ, S, (r.bind S.ext).imp fun d g1 H1 l1 x1 h1 v q => ?_⟩⟩
  refine ⟨g1, ρ, d, S.to l1 x1, q, ?_⟩
  unfold M.bind M.quiet at h1
  cases e1 : f d ρ g1.w with
  | ok ρ1 w1 =>
    rw [e1] at h1
    intro g2 H2 σ2 ew gr S2
    exact h1 g2 H2 σ2 ew gr S2
  | exc k d2 w1 => rw [e1] at h1; exact h1.elim
  | bad => rw [e1] at h1; exact h1.elim
/-- y = [.. for ..] -/
theorem js_setLc {tg elt iter : Expr} {ifs : List Expr} {scope : Scope} {own : List (Str × Nat)} {py : Pos} {T : Tg} {fi : En → M (List D)} {ft : En → M Bool} {o : Bool} (ok : c.Ok) (hN : c.X.N[i]? = some x) (hl : i < fl.length) (hy : c.X.env.scope.names.lookup x = some .local) (hk : c.X.env.scope.kind = .function)
    (hp : (py.line == p.line) = true) (hs : (scope.names.any fun (n, k) => n == x && (k == .local || k == .cell)) = false)
    (hi : JI c fl tg iter fi) (hio : okHead iter = true) (bo : BlkOk c.X.N c.X.env.scope scope own) (hT : ∀ i ∈ T.slots, i ∈ own.map (·.2)) (J : JC c fl tg elt ifs scope T ft fe) :
    JS c fl (fl.set i o) flb (.Assign [.Name x py] (.ListComp elt [⟨tg, iter, ifs, 0⟩] scope p) pos) (fSet i (fComp (own.map (·.2)) T fi ft fe)) := by
  refine ⟨(ps_setLc (g := tG c fl T) (tt := tDT (c.blk c.X) (T.fl fl) ft) (te := tD (c.blk c.X) (T.fl fl) .F fe) ok.calm ok.nd hN hy (sw_true hk hy hp hs) hi.pi bo (fun s H C cl fp => (J.g s H C cl fp).pg) (fun s H C cl fp => (J.t s H C cl fp).pts) (fun s H C cl fp => (J.e s H C cl fp).pe) (fold_of hio _)).imp fun D σ H ⟨g, ρ, S, r⟩ => ?_⟩
  refine comp_reads ok hT σ H _ ⟨g, ρ, S, (r.bind0 S.ext).imp fun d g1 H1 l1 x1 h1 v q => ?_⟩
  cases o with
  | true => exact h1 g1 H1 _ rfl x1.grow (S.setO (S.to l1 x1) hl q)
  | false =>
    obtain ⟨g2, ew, l2, x2, r2⟩ := Post.frz l1 x1 q
    exact (ew ▸ h1) g2 H1 _ rfl x2.grow ((S.to l2 x2).setF r2)
end
end MW
end
section
set_option Elab.async false
set_option autoImplicit false
set_option maxRecDepth 100000
set_option maxHeartbeats 2000000
set_option linter.all false
/-! MW20: errors: a caught one is kept as a value; try; raise. -/
namespace MW
open PySem PySem.Spec PyProof.Rows L2

/-! ### an error that has landed is tracked -/
theorem exA_ok {P : Program} {w : World} {H : Hp} {h : Heap} {C a : Addr} {dx : Option Addr} {oe : Obj} {vs : Array Value} (he : h.get? a = some oe) (hz : Zc (.ref C) dx oe) (hd : oe.data = .fields vs) : ObjOk P w H h a (ExA C dx a) :=
  ⟨⟨oe, vs, he, hz, hd⟩, ⟨oe, he⟩, fun _ _ ⟨o1, v1, e1, z1, d1⟩ k => ⟨o1, v1, k _ e1, z1, d1⟩⟩
theorem hok_adopt {P : Program} {w : World} {H : Hp} {h : Heap} {a : Addr} {o : HO} (x : HOk P w H h) (n : H a = none) (new : ObjOk P w (upd H a o) h a o) : HOk P w (upd H a o) h := fun b u e => by
  by_cases q : b = a
  · subst q
    rw [upd_same] at e
    cases e
    exact new
  · rw [upd_ne q] at e
    exact (x b u e).stay (fun _ _ _ z => z) (fun c z => by rw [upd_ne (ne_of_none z n)]; exact z) fun c xs z => by rw [upd_ne (ne_of_none z n)]; exact z
section
variable {X : Cx} {pins : List (Addr × Obj)} {σ : L2.St} {H : Hp} {s s' : Shared} {a : Addr} {o : HO}
/-- an object that came behind s is tracked -/
theorem inv_adopt (I : Inv X pins σ H s) (J : Inv X pins σ H s') (hn : s.heap.get? a = none) (na : H a = none) (nL : a ≠ X.env.locals) (nF : a ∉ X.fs)
    (hc : ∀ x c, X.env.cells.lookup x = some c → c ≠ a) (hp : ∀ p ∈ X.pn ++ pins, p.1 ≠ a) (new : ObjOk X.prog X.w (upd H a o) s'.heap a o) : Inv X pins σ (upd H a o) s' where
  ok := J.ok
  os := J.os
  bare := J.bare
  base :=
    { keep := J.base.keep
      slot := J.base.slot
      free := fun b u e n hx => by
        have q : b ≠ a := fun z => by
          subst z
          have := I.base.keep b u e n nF hx
          rw [hn] at this
          cases this
        rw [upd_ne q]
        exact J.base.free b u e n hx
      there := J.base.there
      tups := fun b xs e => by
        have := J.base.tups b xs e
        rw [upd_ne (ne_of_none this na)]
        exact this
      frzs := fun b u v e => by
        have := J.base.frzs b u v e
        rw [upd_ne (ne_of_none this na)]
        exact this
      tbls := fun b ps e => by
        obtain ⟨m, q⟩ := J.base.tbls b ps e
        exact ⟨m, by rw [upd_ne (ne_of_none q na)]; exact q⟩ }
  loc := J.loc
  cell := J.cell
  free := by rw [upd_ne (Ne.symm nL)]; exact J.free
  freeC := fun x c e => by rw [upd_ne (hc x c e)]; exact J.freeC x c e
  pin := fun p hp' => by
    obtain ⟨e1, e2, e3⟩ := J.pin p hp'
    exact ⟨e1, by rw [upd_ne (hp p hp')]; exact e2, e3⟩
  hok := hok_adopt J.hok na new
  len := J.len
end

/-! ### try .. except .. (as n): one clause -/
/-- the clause's classes, as it names them -/
def TestOk (X : Cx) (t : Expr) (cs : List Value) : Prop := ∀ (a0 : Addr) (pn pins : List (Addr × Obj)) (σ : L2.St) (H : Hp) (s : Shared) (a : Addr) (cls : Value) (b : Bool) (Q : Bool → Shared → Prop) (E : Value → Shared → Prop), Inv (X.suite a0 pn) pins σ H s →
  PySem.W.Looks (model X.prog X.w) s.heap (typeOf (.ref a)) cls → PySem.W.exmAny X.K cls cs = some b → (∀ h', (∀ q u, s.heap.get? q = some u → h'.get? q = some u) → Q b { s with heap := h' }) →
  wpAny (model X.prog X.w) (X.suite a0 pn).A (eval t X.env) (fun c s₁ => wpAny (model X.prog X.w) (X.suite a0 pn).A (excMatches (.ref a) c) Q E s₁) E s
theorem exmAny_one {K : PySem.W.Frag} {cls c : Value} {b : Bool} (h : PySem.W.exmAny K cls [c] = some b) : PySem.W.exmOne K cls c = some b := by
  obtain ⟨b1, d1, h1, h2, h3⟩ := PySem.W.exmAny_cons h
  have : some false = some d1 := h2
  cases this
  rw [h3, Bool.or_false]
  exact h1
section
variable {X : Cx}
theorem names_ld {a0 : Addr} {pn pins : List (Addr × Obj)} {σ : L2.St} {H : Hp} {s : Shared} {x : Str} {c : Value} {np : Pos} {Q E : Value → Shared → Prop} (hc : Names X x c) (I : Inv (X.suite a0 pn) pins σ H s) (q : Q c s) :
    wpAny (model X.prog X.w) (X.suite a0 pn).A (eval (.Name x np) X.env) Q E s := by
  obtain ⟨hg, hd, hm | ⟨hm, hv, hn⟩⟩ := hc
  · exact ld_glob (X := X.suite a0 pn) I hg hm q hd
  · exact ld_blt (X := X.suite a0 pn) I hg hm hv q hn hd
theorem test_one {x : Str} {c : Value} {np : Pos} (hc : Names X x c) : TestOk X (.Name x np) [c] := fun _ _ _ _ _ s a cls b Q E I LT e q =>
  names_ld hc I ((PySem.W.exm_one (M := model X.prog X.w) I.kIn LT (exmAny_one e)).here (q s.heap fun _ _ z => z))
theorem test_two {x1 x2 : Str} {c1 c2 : Value} {p1 p2 tp : Pos} {k : Nat} (h1 : Names X x1 c1) (h2 : Names X x2 c2) : TestOk X (.Tuple [.Name x1 p1, .Name x2 p2] k tp) [c1, c2] := fun _ _ _ _ _ s a cls b Q E I LT e q => by
  refine wpAny_Tuple (wpAny_items_cons (names_ld h1 I (wpAny_items_cons (names_ld h2 I (wpAny_items_nil ⟨by size_fits, ?_⟩)))))
  have kp : ∀ q u, s.heap.get? q = some u → (s.heap.push { cls := .type "tuple", data := .seq [c1, c2].toArray }).get? q = some u := fun _ _ z => Heap.get?_push_of_some _ z
  exact (PySem.W.exm_tup2 (PySem.W.Frag.In.keeps I.kIn kp) (LT.keeps kp) (Heap.get?_push_size s.heap rfl) e).here (q _ kp)
end
/-- what the clause wishes of an exception of the body -/
def wX (K : PySem.W.Frag) (cs : List Value) (nm : Option (Str × Nat)) (ts : TS) (Wout : WX) (D : Ends) : WX := fun cls d σ H => ∃ b, PySem.W.exmAny K cls cs = some b ∧ (b = true → ∃ C, cls = .ref C ∧ ∀ a, H a = none → match nm with
    | none => ts D σ (upd H a (ExA C d a))
    | some (_, i) => ts { nx := fun σ' H' => D.nx (σ'.set i none) H', rt := D.rt, bk := fun σ' H' => D.bk (σ'.set i none) H', ct := fun σ' H' => D.ct (σ'.set i none) H' } (σ.set i (some (.ref a))) (upd H a (ExA C d a))) ∧ (b = false → Wout cls d σ H)
theorem flying_on {B h h' : Heap} {l : List PySem.Env} {a : Addr} {Z : Obj → Prop} (f : HandSPX.FlyingZ B l a Z h) (k : ∀ b o, h.get? b = some o → h'.get? b = some o) : HandSPX.FlyingZ B l a Z h' := by
  obtain ⟨f1, f2, f3, oe, vs, T, oT, ts, he, hz, hd, h1, hn, hne, hT, hdT, h3⟩ := f
  exact ⟨fun b o q => k b o (f1 b o q), f2, f3.of_keeps fun b o q _ => ⟨o, k b o q, rfl⟩, oe, vs, T, oT, ts, k _ _ he, hz, hd, h1, hn, hne, k _ _ hT, hdT, h3⟩
section
variable {X : Cx} {pins : List (Addr × Obj)} {σ : L2.St} {H : Hp} {s : Shared}
theorem toSuite (I : Inv X pins σ H s) (a : Addr) : Inv (X.suite a (X.pn ++ pins)) [] σ H s :=
  ⟨I.ok.suite _ _, I.os, I.bare, I.base, I.loc, I.cell, I.free, I.freeC, fun p hp => I.pin p (by rw [List.append_nil] at hp; exact hp), I.hok, I.len⟩
theorem ofSuite {a : Addr} (ok : X.Ok) (I : Inv (X.suite a (X.pn ++ pins)) [] σ H s) : Inv X pins σ H s :=
  ⟨ok, I.os, I.bare, I.base, I.loc, I.cell, I.free, I.freeC, fun p hp => I.pin p (List.mem_append_left _ hp), I.hok, I.len⟩
variable {t : Expr} {cs : List Value} {nm : Option (Str × Nat)} {body suite : List Stmt} {b₀ : Stmt} {pos pos' : Pos} {tb : WX → TS} {ts : TS} {Wout : WX}
theorem ps_tryX (hs : X.stack = X.env :: X.outer) (hf : X.env.frame = some X.env.locals) (hN : X.N.Nodup) (hnm : ∀ p ∈ nm, X.N[p.2]? = some p.1 ∧ X.env.kindOf p.1 = some .local) (hc : TestOk X t cs) (tk : Takes X Wout)
    (hb : ∀ (W : WX) (pn : List (Addr × Obj)) (xe : Value → Shared → Prop), Takes (X.tr pn xe) W → PassesOwn (model X.prog X.w) X.A X.env xe → PSs (X.tr pn xe) body (tb W))
    (hsu : ∀ (a : Addr) (pn : List (Addr × Obj)), PSs (X.suite a pn) (b₀ :: suite) ts) :
    PS X (.Try body [.ExceptHandler (some t) (nm.map (·.1)) (b₀ :: suite) pos'] [] [] pos) (fun D σ H => tb (wX X.K cs nm ts Wout D) D σ H) := by
  refine ⟨fun pins s σ H D I h => ?_⟩
  have ok := I.ok
  have hfr : X.A.frames = some (X.env :: X.outer) := by rw [ok.frames, hs]
  refine wpAny_Try_except (wpAny_mono ((hb (wX X.K cs nm ts Wout D) (X.pn ++ pins) (fun e s₁ => wpAny (model X.prog X.w) X.A (noteFrame e X.env) (fun _ s₂ => wpAny (model X.prog X.w) X.A (setFlight e none) (fun _ s₃ =>
    wpAny (model X.prog X.w) X.A (handleBy e X.env [.ExceptHandler (some t) (nm.map (·.1)) (b₀ :: suite) pos']) (SP X pins D) X.xe s₃) X.xe s₂) X.xe s₁) (fun u s' xx => ?_) PassesOwn.looking).run [] s σ H D (I.toTry _) h) (fun f s1 hsp => ?_) (fun _ _ z => z))
  · obtain ⟨a, B, sI, pins', σ', H', cls, d, rfl, J', nb, up, sky, na, os, ag, b, hm, hyes, hno⟩ := xx
    have J : Inv X pins σ' H' sI := J'.ofTry ok
    have sky' : Sky B (X.env :: X.outer) a (Zc cls d) X.env.locals s'.heap := hs ▸ sky
    refine Sky.land Zc.steady hfr hf sky' fun h3 fl3 up3 => ?_
    have J3 : Inv X pins σ' H' { s' with heap := h3 } := J.landed nb fl3.1 (up.trans up3) os ag
    obtain ⟨oe3, vs3, he3, hz3, hd3⟩ := fl3.there
    have nfr : a ∉ frs (X.env :: X.outer) := fun z => by
      obtain ⟨_, o1, e1, q1⟩ := fl3.2.2.1.mem z
      rw [he3] at e1
      cases e1
      exact q1 _ hd3
    have nL : a ≠ X.env.locals := fun z => nfr (List.mem_filterMap.mpr ⟨X.env, List.mem_cons_self, by rw [hf, z]⟩)
    have nF : a ∉ X.fs := fun z => by
      obtain ⟨e, he, q⟩ := List.mem_filterMap.mp z
      exact nfr (List.mem_filterMap.mpr ⟨e, List.mem_cons_of_mem _ he, q⟩)
    have hn : sI.heap.get? a = none := by
      cases q : sI.heap.get? a with
      | none => rfl
      | some u =>
        have := nb a u q (by rw [hs]; exact nfr)
        rw [fl3.2.1] at this
        cases this
    have S3 := toSuite J3 a
    have LT : PySem.W.Looks (model X.prog X.w) h3 (typeOf (.ref a)) cls := fun A Q E s k q => wpAny_typeOf_ref (k _ _ he3) (by rw [hz3.1]; exact q)
    have pass : ∀ h', (∀ q u, h3.get? q = some u → h'.get? q = some u) → b = false → wpAny (model X.prog X.w) X.A (handleBy (.ref a) X.env []) (SP X pins D) X.xe { s' with heap := h' } := fun h' k hb' => by
      have fl' := flying_on fl3 k
      refine wpAny_handleBy_nil ?_
      obtain ⟨k1, k2, k3, oe, vs, T, oT, ts', he, hz, hd, h1, hr⟩ := id fl'
      unfold PySem.passOn
      refine wpAny_bind (wpAny_field he hd h1 ?_)
      rw [if_neg (show ¬ ((Value.ref T == Value.none) = true) from by simp)]
      have up' : sI.heap.UpToSlots h' := (up.trans up3).trans (Heap.UpToSlots.of_keeps k)
      have fin : wpAny (model X.prog X.w) X.A (setFlight (.ref a) X.env.frame) (fun _ s4 => wpAny (model X.prog X.w) X.A (throw (.ref a) : Sem Flow) (SP X pins D) X.xe s4) X.xe { s' with heap := h' } := by
        rw [hf]
        exact HandSPX.setFlight_upZ fl' fun h4 hh4 up4 => wpAny_throw (tk _ _ ⟨a, B, sI, pins, σ', H', cls, d, rfl, J, nb, up'.trans up4, .inr (.inr (by rw [hs]; exact hh4)), na, os, ag, hno hb'⟩)
      first
        | exact wpAny_bind (wpAny_pure (wpAny_bind fin))
        | exact wpAny_bind fin
    -- the suite's start: the error tracked
    have keep : ∀ h', (∀ q u, h3.get? q = some u → h'.get? q = some u) → ∀ {Q : Unit → Shared → Prop} {E : Value → Shared → Prop} {A' : Around}, (∀ C, cls = .ref C → ∀ h4, Inv X pins σ' (upd H' a (ExA C d a)) { s' with heap := h4 } → Q () { s' with heap := h4 }) → (∃ C, cls = .ref C) →
        wpAny (model X.prog X.w) A' (setFlight (.ref a) none) Q E { s' with heap := h' } := fun h' k {Q E A'} hq ⟨C, eC⟩ => by
      have fl' := flying_on fl3 k
      have up' : sI.heap.UpToSlots h' := (up.trans up3).trans (Heap.UpToSlots.of_keeps k)
      refine HandSPX.lands_againZ fl' fun h4 fl4 up4 => hq C eC h4 ?_
      have J4 : Inv X pins σ' H' { s' with heap := h4 } := J.landed nb fl4.1 (up'.trans up4) os ag
      obtain ⟨oe4, vs4, he4, hz4, hd4⟩ := fl4.there
      refine inv_adopt J J4 hn na nL nF (fun x c e z => ?_) (fun p hp z => ?_) (exA_ok he4 (eC ▸ hz4) hd4)
      · obtain ⟨v, o, ho, _⟩ := J.cell x c e
        rw [z, hn] at ho
        cases ho
      · have := (J.pin p hp).1
        rw [z, hn] at this
        cases this
    refine wpAny_handleBy_cons (codeAny_handlers_test (hc a _ _ _ _ _ a cls b _ _ S3 LT hm fun h' k => ?_)) (by intro q; cases q)
    cases b with
    | false => exact pass h' k rfl
    | true =>
      obtain ⟨C0, eC0, hyes⟩ := hyes rfl
      cases nm with
      | none =>
        refine codeAny_handlers_suite (keep h' k (fun C eC h4 J5 => ?_) ⟨C0, eC0⟩)
        rw [eC0] at eC
        cases eC
        refine wpAny_mono ((hsu a (X.pn ++ pins)).run [] _ _ _ D (toSuite J5 a) (hyes a na)) (fun f s6 hsp => ?_) (fun _ _ z => False.elim z)
        cases f with
        | ret u => obtain ⟨v6, σ6, H6, S6, r6, q6⟩ := hsp; exact ⟨_, _, _, ofSuite ok S6, r6, q6⟩
        | _ => obtain ⟨σ6, H6, S6, q6⟩ := hsp; exact ⟨_, _, ofSuite ok S6, q6⟩
      | some ni =>
        obtain ⟨n, i⟩ := ni
        obtain ⟨hi, hln⟩ := hnm (n, i) rfl
        refine codeAny_handlers_suite_as (keep h' k (fun C eC h4 J5 => ?_) ⟨C0, eC0⟩)
        rw [eC0] at eC
        cases eC
        refine store_ok (X := X.suite a (X.pn ++ pins)) (v := .ref a) (toSuite J5 a) hN hi (.inl hln) rfl (fun s5 S5 => ?_) (.inr hln)
        refine wpAny_mono ((hsu a (X.pn ++ pins)).run [] s5 _ _ _ S5 (hyes a na)) (fun f s6 hsp => ?_) (fun _ _ z => False.elim z)
        have end_ : ∀ {σ6 : L2.St} {H6 : Hp} {Q : Shared → Prop}, Inv (X.suite a (X.pn ++ pins)) [] σ6 H6 s6 → (∀ s7, Inv X pins (σ6.set i none) H6 s7 → Q s7) →
            wpAny (model X.prog X.w) X.A (do bindName X.env n .none; unbindBehindTheSuite X.env n pos') (fun _ s7 => Q s7) X.xe s6 := fun {σ6 H6 Q} S6 hq => gone_ok (ofSuite ok S6) hN hi hln hq
        cases f with
        | ret u =>
          obtain ⟨v6, σ6, H6, S6, r6, q6⟩ := hsp
          exact end_ S6 fun s7 J7 => ⟨_, _, _, J7, r6, q6⟩
        | _ =>
          obtain ⟨σ6, H6, S6, q6⟩ := hsp
          exact end_ S6 fun s7 J7 => ⟨_, _, J7, q6⟩
  · cases f with
    | next => obtain ⟨σ', H', J', q⟩ := hsp; exact wpAny_execs_nil ⟨σ', H', J'.ofTry ok, q⟩
    | ret u => obtain ⟨v, σ', H', J', r, q⟩ := hsp; exact ⟨v, σ', H', J'.ofTry ok, r, q⟩
    | _ => obtain ⟨σ', H', J', q⟩ := hsp; exact ⟨σ', H', J'.ofTry ok, q⟩
end
end MW
end
section
set_option Elab.async false
set_option autoImplicit false
set_option maxRecDepth 100000
/-! MW21: try by data: a body of one statement, one clause. -/
namespace MW
open PySem PySem.Spec PyProof.Rows L2

/-- the one statement of the body: what becomes of the expression's value -/
inductive One where | expr | set (i : Nat) | ret
def One.fl : One → Fls → Fls
  | .set i, fl => fl.set i false
  | _, fl => fl
def One.run : One → D → En → Fl
  | .expr, _, ρ => .nx ρ
  | .set i, d, ρ => .nx (ρ.set i (some d))
  | .ret, d, _ => .rt d
def One.k : One → V → L2.St → Hp → Ends → Prop
  | .expr, _, σ, H, D => D.nx σ H
  | .set i, v, σ, H, D => D.nx (σ.set i (some v)) H
  | .ret, v, _, H, D => D.rt v H
/-- a statement made of one expression -/
structure J1 (c : Ct) (fl : Fls) (o : One) (st : Stmt) (fe : En → M D) : Prop where
  ps : PS c.X st fun D σ H => tD c fl .F fe σ H fun v H1 => o.k v σ H1 D
section
variable {c : Ct} {fl flo flb : Fls} {e : Expr} {md : Md} {fe : En → M D} {pos p : Pos} {i : Nat} {x : Str}
theorem j1_expr (he : JX c fl e .F fe) (hc : noComp e = true) : J1 c fl .expr (.Expr e pos) fe := ⟨(ps_expr he.pe (swap_no hc _ _ _)).imp fun _ _ _ h => h⟩
theorem j1_ret (he : JX c fl e .F fe) : J1 c fl .ret (.Return (some e) pos) fe := ⟨(ps_ret he.pe).imp fun _ _ _ h => h⟩
theorem j1_set (nd : c.X.N.Nodup) (hi : c.X.N[i]? = some x) (hx : L2.Loc c.X.env.scope x) (hf : c.X.fn x = true ∨ c.X.env.scope.names.lookup x = some .local) (he : JX c fl e .F fe) (hc : noComp e = true) : J1 c fl (.set i) (.Assign [.Name x p] e pos) fe :=
  ⟨(ps_set nd hi hx he.pe (swap_no hc _ _ _) hf).imp fun _ _ _ h => h⟩
theorem J1.js {o : One} {st : Stmt} (h : J1 c fl o st fe) (hl : o = .ret ∨ flo = o.fl fl) : JS c fl flo flb st fun ρ => M.bind (fe ρ) fun d => M.pure (o.run d ρ) := by
  refine ⟨h.ps.imp fun D σ H ⟨g, ρ, S, r⟩ => ⟨g, ρ, S, (r.bind S.ext).imp fun d g1 H1 l1 x1 h1 v q => ?_⟩⟩
  cases o with
  | ret => exact h1 g1 H1 v rfl l1 (S.ext.trans x1) q
  | expr =>
    have e : flo = fl := hl.resolve_left (by simp)
    subst e
    exact h1 g1 H1 σ rfl (Grow.refl g1) (S.to l1 x1)
  | set i =>
    have e : flo = fl.set i false := hl.resolve_left (by simp)
    subst e
    exact h1 g1 H1 _ rfl (Grow.refl g1) ((S.to l1 x1).setF q)
end
/-- the error's name goes -/
def Fl.gone (nm : Option Nat) : Fl → Fl
  | .nx ρ => .nx (match nm with | none => ρ | some i => ρ.set i none)
  | .bk ρ => .bk (match nm with | none => ρ | some i => ρ.set i none)
  | .ct ρ => .ct (match nm with | none => ρ | some i => ρ.set i none)
  | .rt d => .rt d
/-- mch: whether the clause takes errors of a class -/
def fTry (mch : Nat → Option Bool) (nm : Option Nat) (o : One) (fe : En → M D) (fs : En → M Fl) : En → M Fl := fun ρ w => match fe ρ w with
  | .ok d w' => .ok (o.run d ρ) w'
  | .exc k d w' => match mch k with
    | some true => M.bind (M.quiet (fs (match nm with | none => ρ | some i => ρ.set i (some (.exn k d))))) (fun r => M.pure (r.gone nm)) w'
    | some false => .exc k d w'
    | none => .bad
  | .bad => .bad
def Ct.tr (c : Ct) (pn : List (Addr × Obj)) (xe : Value → Shared → Prop) (W : WX) : Ct := { c with X := c.X.tr pn xe, W := W }
def Ct.su (c : Ct) (a : Addr) (pn : List (Addr × Obj)) : Ct := { c with X := c.X.suite a pn, W := fun _ _ _ _ => False }
/-- what is known of the classes that may fly -/
def Mch (c : Ct) (cs : List Value) (mch : Nat → Option Bool) : Prop := ∀ k C n b, c.P.exc k = some (C, n) → mch k = some b → PySem.W.exmAny c.X.K (.ref C) cs = some b
section
variable {c : Ct} {fl flo flb : Fls} {fe : En → M D} {fs : En → M Fl} {pos pos' : Pos} {t : Expr} {cs : List Value} {nm : Option (Str × Nat)} {suite : List Stmt} {b₀ st : Stmt} {o : One} {mch : Nat → Option Bool}
theorem js_try (ok : c.Ok) (hs : c.X.stack = c.X.env :: c.X.outer) (hf : c.X.env.frame = some c.X.env.locals) (hnm : ∀ p ∈ nm, c.X.N[p.2]? = some p.1 ∧ c.X.env.kindOf p.1 = some .local) (ht : TestOk c.X t cs) (hm : Mch c cs mch)
    (hl : o = .ret ∨ flo = o.fl fl) (hfl : ∀ p ∈ nm, fl[p.2]? ≠ some true)
    (hb : ∀ (W : WX) (pn : List (Addr × Obj)) (xe : Value → Shared → Prop), Takes (c.X.tr pn xe) W → J1 (c.tr pn xe W) fl o st fe)
    (hsu : ∀ (a : Addr) (pn : List (Addr × Obj)), JB (c.su a pn) fl flo flb (b₀ :: suite) fs) :
    JS c fl flo flb (.Try [st] [.ExceptHandler (some t) (nm.map (·.1)) (b₀ :: suite) pos'] [] [] pos) (fTry mch (nm.map (·.2)) o fe fs) := by
  have hb' : ∀ (W : WX) (pn : List (Addr × Obj)) (xe : Value → Shared → Prop), Takes (c.X.tr pn xe) W → PassesOwn (model c.X.prog c.X.w) c.X.A c.X.env xe → PSs (c.X.tr pn xe) [st] (fun D σ H => tD { c with W := W } fl .F fe σ H fun v H1 => o.k v σ H1 D) := fun W pn xe tk _ => pss_one (hb W pn xe tk).ps
  have hsu' : ∀ (a : Addr) (pn : List (Addr × Obj)), PSs (c.X.suite a pn) (b₀ :: suite) (tS (c.su 0 []) fl flo flb fs) := fun a pn => (hsu a pn).ps
  refine ⟨(ps_tryX hs hf ok.nd hnm ht ok.tk hb' hsu').imp fun D σ H ⟨g, ρ, S, h⟩ => ⟨g, ρ, S, ?_⟩⟩
  unfold fTry at h
  cases e : fe ρ g.w with
  | bad => rw [e] at h; exact h.elim
  | ok d w' =>
    rw [e] at h
    intro g1 H1 ew l1 x1 v q
    cases o with
    | ret => exact h g1 H1 v ew l1 (S.ext.trans x1) q
    | expr =>
      have e : flo = fl := hl.resolve_left (by simp)
      subst e
      exact h g1 H1 σ ew x1.grow (S.to l1 x1)
    | set i =>
      have e : flo = fl.set i false := hl.resolve_left (by simp)
      subst e
      exact h g1 H1 _ ew x1.grow ((S.to l1 x1).setF q)
  | exc k d w' =>
    rw [e] at h
    dsimp only at h
    intro g1 H1 ew l1 x1 C n dx hx xd
    cases em : mch k with
    | none => rw [em] at h; exact h.elim
    | some b =>
      rw [em] at h
      refine ⟨b, hm k C n b hx em, fun hb => ⟨C, rfl, fun a na => ?_⟩, fun hb => ?_⟩
      · subst hb
        dsimp only at h
        have x2 : Ext g1 H1 (g1.frz a (ExA C dx a)) (upd H1 a (ExA C dx a)) := Ext.newF l1 na
        have S2 : SRel c.P c.g0 c.H0 fl (g1.frz a (ExA C dx a)) (upd H1 a (ExA C dx a)) σ ρ := (S.to l1 x1).to (l1.newF na) x2
        have rp : Rp c.P (g1.frz a (ExA C dx a)).G (g1.frz a (ExA C dx a)).am (.ref a) (.exn k d) := by
          have ga : (g1.frz a (ExA C dx a)).G a = some (ExA C dx a) := upd_same
          cases n with
          | none =>
            cases dx with
            | none =>
              have : d = .non := xd
              subst this
              exact .exn0 hx ga
            | some dx => exact xd.elim
          | some nn =>
            cases dx with
            | none => exact xd.elim
            | some dx =>
              obtain ⟨v, q1, q2⟩ := xd
              exact .exn hx ga (x2.gg _ _ q1) (q2.ext x2)
        have gr : Grow g (g1.frz a (ExA C dx a)) := x1.grow.trans x2.grow
        unfold M.bind M.quiet at h
        cases nm with
        | none =>
          refine ⟨_, ρ, S2, ?_⟩
          have ew' : (g1.frz a (ExA C dx a)).w = w' := ew
          rw [ew']
          dsimp only [Option.map] at h
          cases q : fs ρ w' with
          | ok r w2 =>
            rw [q] at h
            cases r with
            | nx ρ2 => exact fun g2 H2 σ2 e2 gr2 S3 => h g2 H2 σ2 e2 (gr.trans gr2) S3
            | bk ρ2 => exact fun g2 H2 σ2 e2 gr2 S3 => h g2 H2 σ2 e2 (gr.trans gr2) S3
            | ct ρ2 => exact fun g2 H2 σ2 e2 gr2 S3 => h g2 H2 σ2 e2 (gr.trans gr2) S3
            | rt d2 => exact h
          | exc k2 d2 w2 => rw [q] at h; exact h.elim
          | bad => rw [q] at h; exact h.elim
        | some ni =>
          obtain ⟨nn, i⟩ := ni
          have S3 := S2.setF (i := i) rp
          have ef : fl.set i false = fl := by
            apply List.ext_getElem?
            intro j
            by_cases qj : j = i
            · subst qj
              have := hfl (nn, j) rfl
              by_cases hj : j < fl.length
              · rw [List.getElem?_set_self hj]
                have e0 : fl[j]? = some fl[j] := List.getElem?_eq_getElem hj
                rw [e0] at this ⊢
                cases eb : fl[j] with
                | true => rw [eb] at this; exact absurd rfl this
                | false => rfl
              · rw [List.getElem?_eq_none (by simpa using hj), List.getElem?_eq_none (by omega)]
            · rw [List.getElem?_set_ne (Ne.symm qj)]
          rw [ef] at S3
          refine ⟨_, _, S3, ?_⟩
          have ew' : (g1.frz a (ExA C dx a)).w = w' := ew
          rw [ew']
          dsimp only [Option.map] at h
          cases q : fs (ρ.set i (some (.exn k d))) w' with
          | ok r w2 =>
            rw [q] at h
            cases r with
            | nx ρ2 => exact fun g2 H2 σ2 e2 gr2 S3 => h g2 H2 _ e2 (gr.trans gr2) (S3.forget i)
            | bk ρ2 => exact fun g2 H2 σ2 e2 gr2 S3 => h g2 H2 _ e2 (gr.trans gr2) (S3.forget i)
            | ct ρ2 => exact fun g2 H2 σ2 e2 gr2 S3 => h g2 H2 _ e2 (gr.trans gr2) (S3.forget i)
            | rt d2 => exact h
          | exc k2 d2 w2 => rw [q] at h; exact h.elim
          | bad => rw [q] at h; exact h.elim
      · subst hb
        exact h g1 H1 σ ew l1 (S.ext.trans x1) C n dx hx xd
end
end MW
end
section
set_option Elab.async false
set_option autoImplicit false
set_option maxRecDepth 100000
set_option maxHeartbeats 4000000
/-! MW27: own classes of errors over KeyError, whose __init__ stores. -/
namespace MW
open PySem PySem.Spec PyProof.Rows L2
/-- what stands behind an own class over KeyError -/
def keyTail : List Value := [.type "KeyError", .type "LookupError", .type "Exception", .type "BaseException", .type "object"]
theorem key_slot : Slot "KeyError" "__init__" "KeyError.__init__" :=
  .of (owner := "KeyError") (n := "__init__") (by rw [typeLookup_type, builtinLookup_eq_fast]; kernel_rfl) (by decide +kernel) (by decide +kernel) (by decide +kernel) (by first | exact .inl (by decide +kernel) | exact .inr (by decide +kernel)) (by rw [isSubtype_type]; kernel_rfl)
theorem key_entry : entryFor table "KeyError.__init__" = some Builtin.«BaseException.__init__» := entryFor_alias (id' := "BaseException.__init__") (by rw [fastTable_eq_tree]; kernel_rfl) (by first | rfl | decide +kernel) (by decide +kernel) (by rw [fastTable_eq_tree]; kernel_rfl)
theorem key_split : splitId "KeyError.__init__" = some ("KeyError", "__init__") := by kernel_rfl
theorem key_kind : builtinKind "KeyError.__init__" = some .slot := by kernel_rfl
theorem key_row : Manifest.signature? "KeyError.__init__" = some ⟨.positional, "*", "KeyError", .self, [⟨"args", .varPos, false⟩]⟩ := by kernel_rfl
theorem key_store : StoreFacts "KeyError" keyTail "object.__setattr__" "object" where
  mro := by unfold keyTail; kernel_rfl
  slot := .of (owner := "object") (n := "__setattr__") (by rw [typeLookup_type, builtinLookup_eq_fast]; kernel_rfl) (by decide +kernel) (by decide +kernel) (by decide +kernel) (by first | exact .inl (by decide +kernel) | exact .inr (by decide +kernel)) (by rw [isSubtype_type]; kernel_rfl)
  entry := PySem.F.entry_object_sa
  kind := by decide +kernel
  split := by decide +kernel
  hasOwner := by decide +kernel
  args := fun a b c => by unfold argsOk; kernel_rfl
  passes := fun self => by unfold keyTail; kernel_rfl
theorem typ_key : typeOf (.type "KeyError") = pure (.type "type") := by kernel_rfl
/-- what the written part says of such a class -/
structure OexK (K : PySem.W.Frag) (C : Addr) : Prop where
  cls : ∃ nm q N bs bm sn sub ab col dd k0 k1 k2 k3 k5, K.lookup C = some (excClassObj nm q C N bs bm true sn sub ab col dd k0 k1 k2 k3 k5 "LookupError.__new__") ∧ PySem.W.excTail keyTail bm = true
  sa : PySem.W.findIn K (.ref C) "__setattr__" = some (some (.builtin "object.__setattr__"))
  exC : PySem.W.subIn K (.ref C) (.type "BaseException") = some true
  tyC : PySem.W.typeIn K (.ref C) = some (.type "type")
  kC : PySem.W.keepIn K (.ref C) = true
section
variable {M : Model} {A : Around} {E : Value → Shared → Prop} {hp : Heap} {g : Array GenState} {dr : Drawn} {tk : Nat} {os : OsState}
variable {nm q : Str} {C N : Addr} {bs bm : List Value} {hd : Bool} {sn : List Str} {sub : List Value} {ab : Bool} {col : Option Bool} {dd : Option Addr} {k0 k1 k2 k3 k5 : Option Value}
theorem keyHas {T : String} {b : Bool} (e : PySem.W.excTail keyTail bm = true) (h : keyTail.contains (.type T) = b) : (Value.ref C :: bm).contains (.type T) = b := by
  rw [List.contains_cons, PySem.W.excTail_contains T bm e, h]; rfl
theorem key_newChk (e : PySem.W.excTail keyTail bm = true) {ws : List Value} {Q : Unit → Shared → Prop} (oC : hp.get? C = some (excClassObj nm q C N bs bm hd sn sub ab col dd k0 k1 k2 k3 k5 "LookupError.__new__")) (z : Q () ⟨hp, g, dr, tk, os⟩) :
    wpAny M A (checkBuiltinCall "LookupError.__new__" ⟨.ref C :: ws, []⟩) Q E ⟨hp, g, dr, tk, os⟩ := by
  have c1 : (Value.ref C :: bm).contains (.type "LookupError") = true := keyHas e (by decide +kernel)
  have c2 := PySem.F.excBase_LookupError.noStar
  simp only [checkBuiltinCall, PySem.F.excBase_LookupError.newKind, PySem.F.excBase_LookupError.newSplit, PySem.F.excBase_LookupError.newRow]
  repeat (first
    | refine wpAny_loadPart_at oC ?_
    | (refine wpAny_isSubtype_exc oC ?_; rw [c1])
    | refine wpAny_staticBase_exc oC ?_
    | refine wpAny_madeBy_exc oC ?_
    | simp only [bne_self_eq_false, Bool.false_eq_true, if_false]
    | wp_step)
  exact z
theorem key_initChk (e : PySem.W.excTail keyTail bm = true) {a : Addr} {oa : Obj} {ws : List Value} {Q : Unit → Shared → Prop} (oC : hp.get? C = some (excClassObj nm q C N bs bm hd sn sub ab col dd k0 k1 k2 k3 k5 "LookupError.__new__")) (ea : hp.get? a = some oa) (ca : oa.cls = .ref C) (z : Q () ⟨hp, g, dr, tk, os⟩) :
    wpAny M A (checkBuiltinCall "KeyError.__init__" ⟨.ref a :: ws, []⟩) Q E ⟨hp, g, dr, tk, os⟩ := by
  have c1 : (Value.ref C :: bm).contains (.type "KeyError") = true := keyHas e (by decide +kernel)
  simp only [checkBuiltinCall, key_kind, key_split, key_row]
  repeat (first
    | (with_reducible refine wpAny_loadPart_at ea ?_; rw [ca])
    | with_reducible refine wpAny_loadPart_at oC ?_
    | (with_reducible refine wpAny_isSubtype_exc oC ?_; rw [c1])
    | wp_step)
  refine wpAny_onRaise ?_
  rw [show ∀ (x y : String) (i : Nat), Bind.check ⟨.positional, "*", "KeyError", .self, [⟨"args", .varPos, false⟩]⟩ x y i (List.map (fun u => u.fst) ({ pos := Value.ref a :: ws } : Args).kw) = pure () from fun x y i => check_star_args _ _ _ _ _ _]
  exact wpAny_pure z
end
section
variable {P : Program} {w : World} {A : Around} {E : Value → Shared → Prop} {R : Result → Shared → Prop} {hp : Heap} {g : Array GenState} {dr : Drawn} {tk : Nat} {os : OsState}
variable {nm q : Str} {C N : Addr} {bs bm : List Value} {hd : Bool} {sn : List Str} {sub : List Value} {ab : Bool} {col : Option Bool} {dd : Option Addr} {k0 k1 k2 k3 k5 : Option Value}
theorem key_new (e : PySem.W.excTail keyTail bm = true) {ws : List Value} (oC : hp.get? C = some (excClassObj nm q C N bs bm hd sn sub ab col dd k0 k1 k2 k3 k5 "LookupError.__new__"))
    (z : R (.ok (.ret (.ref (hp.objs.size + 1)))) ⟨(hp.push (PySem.W.kdv_tup ws)).push (PySem.HandSPX.excO C hp.objs.size), g, dr, tk, os⟩) (hl : ws.length ≤ sizeLine) :
    codeAny (model P w) A (.builtin "LookupError.__new__" ⟨.ref C :: ws, []⟩) R ⟨hp, g, dr, tk, os⟩ := by
  have c0 := PySem.F.excBase_LookupError.ends
  have c1 : (Value.ref C :: bm).contains (.type "LookupError") = true := keyHas e (by decide +kernel)
  have c2 : (Value.ref C :: bm).contains (.type "AttributeError") = false := keyHas e (by decide +kernel)
  have c3 : (Value.ref C :: bm).contains (.type "NameError") = false := keyHas e (by decide +kernel)
  refine codeAny_builtinAt PySem.F.excBase_LookupError.entry ?_
  unfold Builtin.«BaseException.__new__»
  refine PySem.wpAt_bind ?_
  show PySem.wpAt _ _ _ (stack >>= _) _ _ _
  refine PySem.wpAt_bind (PySem.wpAt_stack fun p0 below => PySem.wpAt_of_wpAny ?_)
  wp_walk
  refine PySem.wpAt_of_wpAny ?_
  rw [PySem.F.excBase_LookupError.owner]
  repeat (first
    | with_reducible refine wpAny_madeHere_exc PySem.F.excBase_LookupError.canon oC ?_
    | with_reducible refine wpAny_loadPart_at oC ?_
    | (with_reducible refine wpAny_isSubtype_exc oC ?_; first | rw [c1] | rw [c2] | rw [c3])
    | wp_step)
  show R _ _
  rw [Heap.size_push]
  exact z
theorem key_typeCall (e : PySem.W.excTail keyTail bm = true) {ws : List Value} {fI : Addr} {Q : PySem.Fin → Shared → Prop} (oC : hp.get? C = some (excClassObj nm q C N bs bm hd sn sub ab col dd k0 k1 k2 k3 k5 "LookupError.__new__"))
    (li : PySem.W.Looks (model P w) hp (typeLookup (.ref C) "__init__") (some (.ref fI))) (lb : ∀ self, PySem.W.Looks (model P w) hp (bindSpecial (.ref fI) self) (.ref fI, [self])) (hl : ws.length ≤ sizeLine)
    (z : codeAny (model P w) A (.call (.ref fI) ⟨.ref (hp.objs.size + 1) :: ws, []⟩) (fun r s' => match r with | .ok (.ret v) => v = .none ∧ Q (.done (.ret (.ref (hp.objs.size + 1)))) s' | .ok _ => False | .error x => E x s')
      ⟨(hp.push (PySem.W.kdv_tup ws)).push (PySem.HandSPX.excO C hp.objs.size), g, dr, tk, os⟩) :
    wpAny (model P w) A (Builtin.«type.__call__» ⟨.ref C :: ws, []⟩) Q E ⟨hp, g, dr, tk, os⟩ := by
  repeat (first | with_reducible refine wpAny_loadPart_at oC ?_ | with_reducible refine wpAny_madeBy_exc oC ?_ | wp_step)
  refine codeAny_call_builtin_code (Code.quiet_builtin _ PySem.F.excBase_LookupError.quiet) (key_newChk e oC ?_)
  refine key_new e oC ?_ hl
  show wpAny _ _ _ _ _ _
  have kk : ∀ b o, hp.get? b = some o → ((hp.push (PySem.W.kdv_tup ws)).push (PySem.HandSPX.excO C hp.objs.size)).get? b = some o := fun b o y => Heap.get?_push_of_some _ (Heap.get?_push_of_some _ y)
  have oC1 := kk _ _ oC
  have oN : ((hp.push (PySem.W.kdv_tup ws)).push (PySem.HandSPX.excO C hp.objs.size)).get? (hp.objs.size + 1) = some (PySem.HandSPX.excO C hp.objs.size) := by heap_get
  have cC : (Value.ref C :: bm).contains (.ref C) = true := by simp
  have l1 := li.keeps kk
  have l2 := (lb (.ref (hp.objs.size + 1))).keeps kk
  unfold isInstance
  repeat (first | with_reducible refine wpAny_loadPart_at oN ?_ | (with_reducible refine wpAny_isSubtype_exc oC1 ?_; rw [cC]) | wp_step)
  show wpAny _ _ (typeLookup (.ref C) _) _ _ _
  refine l1.at ?_
  refine wpAny_holding (wpAny_bind (l2.at ?_))
  refine wpAny_bind (wpAny_call (codeAny_mono z fun r s' y => ?_))
  rcases r with x | (v | _ | _ | _) <;> first | exact y | exact y.elim | skip
  obtain ⟨rfl, y⟩ := y
  first
    | exact wpAny_pure (wpAny_pure y)
    | (wp_walk; exact y)
theorem key_call (e : PySem.W.excTail keyTail bm = true) {ws : List Value} {fI : Addr} (oC : hp.get? C = some (excClassObj nm q C N bs bm hd sn sub ab col dd k0 k1 k2 k3 k5 "LookupError.__new__"))
    (li : PySem.W.Looks (model P w) hp (typeLookup (.ref C) "__init__") (some (.ref fI))) (lb : ∀ self, PySem.W.Looks (model P w) hp (bindSpecial (.ref fI) self) (.ref fI, [self])) (hl : ws.length ≤ sizeLine)
    (z : codeAny (model P w) (A.under (.builtin "type.__call__" ⟨.ref C :: ws, []⟩)) (.call (.ref fI) ⟨.ref (hp.objs.size + 1) :: ws, []⟩) (PySem.W.InitBack (hp.objs.size + 1) R)
      ⟨(hp.push (PySem.W.kdv_tup ws)).push (PySem.HandSPX.excO C hp.objs.size), g, dr, tk, os⟩) :
    codeAny (model P w) A (.call (.ref C) ⟨ws, []⟩) R ⟨hp, g, dr, tk, os⟩ := by
  have h1 := tc_lookup
  have h2 := tc_bind (.ref C)
  have h3 : (⟨hp, g, dr, tk, os⟩ : Shared).TypeIs (.ref C) "type" := ⟨_, oC, rfl⟩
  refine codeAny_of_tree ?_
  show wpAny _ _ (callAny (.ref C) _) _ _ _
  repeat (any_goals (first | assumption | with_reducible refine wpAny_loadPart_at oC ?_ | wp_step))
  refine ⟨rfl, ?_⟩
  refine codeAny_call_builtin_at (Code.quiet_builtin _ (by decide +kernel)) entry_typeCall (wpAny_check_type_call_sub oC (key_typeCall e oC li lb hl ?_))
  refine codeAny_mono z fun r s' y => ?_
  rcases r with x | (v | _ | _ | _) <;> exact y
theorem key_init (e : PySem.W.excTail keyTail bm = true) {a t0 : Addr} {ws : List Value} (oC : hp.get? C = some (excClassObj nm q C N bs bm hd sn sub ab col dd k0 k1 k2 k3 k5 "LookupError.__new__")) (ea : hp.get? a = some (PySem.HandSPX.excO C t0)) (hl : ws.length ≤ sizeLine)
    (z : ∀ h' t1, (∀ b o, b ≠ a → hp.get? b = some o → h'.get? b = some o) → h'.get? a = some (PySem.HandSPX.excO C t1) → R (.ok (.ret .none)) ⟨h', g, dr, tk, os⟩) :
    codeAny (model P w) A (.call (.builtin "KeyError.__init__") ⟨.ref a :: ws, []⟩) R ⟨hp, g, dr, tk, os⟩ := by
  refine codeAny_call_builtin key_slot.plain key_entry (key_initChk e oC ea rfl ?_)
  wp_walk
  refine z _ hp.objs.size (fun b o nb ob => ?_) ?_
  · rw [Heap.get?_update_other _ _ (Ne.symm nb)]
    exact Heap.get?_push_of_some _ ob
  · rw [Heap.get?_update_self _ (Heap.get?_push_of_some _ ea) rfl]
    rfl
end
end MW
end
section
set_option Elab.async false
set_option autoImplicit false
set_option maxRecDepth 100000
set_option maxHeartbeats 4000000
/-! MW29: errors over KeyError are made; errors over ValueError or KeyError alike. -/
namespace MW
open PySem PySem.Spec PyProof.Rows L2
section
open Builtin Builtin.ObjectAttr
variable {P : Program} {w : World} {A : Around} {E : Value → Shared → Prop} {R : Result → Shared → Prop} {hp : Heap} {g : Array GenState} {dr : Drawn} {tk : Nat} {os : OsState}
theorem key_set {K : PySem.W.Frag} {f : Str} {t0 : Tok} {v : Value} {a C : Addr} {fv : Array Value} {nm q : Str} {N : Addr} {bs bm : List Value} {sn : List Str} {sub : List Value} {ab : Bool} {col : Option Bool} {dd : Option Addr} {k0 k1 k2 k3 k5 : Option Value}
    (X : K.In hp) (ea : hp.get? a = some { cls := .ref C, data := .fields fv }) (hC : K.lookup C = some (excClassObj nm q C N bs bm true sn sub ab col dd k0 k1 k2 k3 k5 "LookupError.__new__")) (hb : PySem.W.excTail keyTail bm = true) (hf : PySem.W.findIn K (.ref C) f = some none)
    (z : ∀ h' tk' dx, (∀ b o, b ≠ a → hp.get? b = some o → h'.get? b = some o) → hp.objs.size ≤ dx → dx ≠ a → h'.get? a = some { cls := .ref C, dict := some dx, data := .fields fv } → h'.Ns1 dx (fun y => if y = f then some v else none) → R (.ok (.ret .none)) ⟨h', g, dr, tk', os⟩) :
    codeAny (model P w) A (.call (.builtin "object.__setattr__") ⟨[.ref a, .str f t0, v], []⟩) R ⟨hp, g, dr, tk, os⟩ := by
  have hcd : PySem.W.clsIn K C = some { name := nm, bases := bs, mro := .ref C :: bm, ns := N, qualname := q, hasDict := true, slotNames := sn, subclasses := sub, abstract := ab, collection := col, hasDel := false } := by unfold PySem.W.clsIn; rw [hC] <;> rfl
  have I : PySem.W.InstAt hp a { cls := .ref C, data := .fields fv } C none := ⟨ea, rfl, rfl, trivial⟩
  have na : a ≠ hp.objs.size := Nat.ne_of_lt (Heap.lt_size ea)
  have hov : PySem.W.excOver K C keyTail = true := by
    unfold PySem.W.excOver
    rw [hcd]
    simp [hb]
  have htk : PySem.W.takerIn K C f = some none := by
    unfold PySem.W.takerIn
    rw [hf]
    rfl
  refine PySem.W.osa_openX key_store X I hov htk fun b => ?_
  have lc : PySem.W.Looks (model P w) hp (classData C) _ := PySem.W.looks_clsIn X hcd
  show wpAny _ _ (storeInOwnDict (.ref a) (.ref C) (.str f t0) f v b) _ _ _
  unfold storeInOwnDict ownDictForStores
  repeat (first | with_reducible refine PySem.HandSPX.store_in_new ?_ ?_ | with_reducible refine wpAny_loadPart_at ea ?_ | with_reducible refine lc.at ?_ | wp_step)
  · exact ⟨_, #[], _, (Heap.get?_update_ne _ _ _ _ na.symm).trans (Heap.get?_push_at rfl rfl), rfl, fun x hx => absurd hx (by simp), fun _ => rfl⟩
  · intro h' tk' hn hs
    have ea1 : (hp.push { cls := .type "dict", data := .dict #[] }).get? a = some { cls := .ref C, data := .fields fv } := Heap.get?_push_of_some _ ea
    refine z h' tk' hp.objs.size (fun c o nc oc => ?_) (Nat.le_refl _) na.symm ?_ hn
    · exact (hs.2 c (Nat.ne_of_lt (Heap.lt_size oc))).trans ((Heap.get?_update_ne _ _ _ _ nc).trans (Heap.get?_push_of_some _ oc))
    · exact (hs.2 a na).trans (Heap.get?_update_self _ ea1 rfl)
end
section
variable {X : Cx} {pins : List (Addr × Obj)} {σ : L2.St} {H : Hp} {s : Shared} {a C dx : Addr} {f : Str} {y : V} {u : Value} {E : Value → Shared → Prop} {A : Around}
/-- self.f = y, the first one -/
theorem kst_new {Q : Unit → Shared → Prop} (T : OexK X.K C) (I : Inv X pins σ H s) (e : H a = some (exo a C none)) (hno : PySem.W.findIn X.K (.ref C) f = some none) (ry : RelV y u)
    (z : ∀ dx s', H dx = none → dx ≠ a → Inv X pins σ (upd (upd H dx (exd dx [(f, y)])) a (exo a C (some dx))) s' → Q () s') : wpAny (model X.prog X.w) A (setAttr (.ref a) f u) Q E s := by
  obtain ⟨nm, q, N, bs, bm, sn, sub, ab, col, dd, k0, k1, k2, k3, k5, hC, hbm⟩ := T.cls
  obtain ⟨t1, ho⟩ := exo_at I.hok e
  obtain ⟨hp, g, d, t, os⟩ := s
  refine PySem.W.set_plain I.kIn (ox := { cls := .ref C, dict := none, data := .fields #[.ref t1, .none, .none, .none, .bool false, .none] }) (od := none) ⟨ho, rfl, rfl, trivial⟩ T.sa ?_
  refine key_set I.kIn ho hC hbm hno (fun h' tk' dx k dn dne hx hn => ?_)
  have f1 : H dx = none := I.hok.fresh dn
  have f2 : ∀ {b : Addr} {o : Obj}, hp.get? b = some o → b ≠ dx := fun {b o} q => Nat.ne_of_lt (Nat.lt_of_lt_of_le (Heap.lt_size q) dn)
  have f3 : ∀ {b : Addr}, H b = none → b ≠ a := fun {b} n z => by
    rw [z, e] at n
    cases n
  have U : Un X.fs [] H (upd (upd H dx (exd dx [(f, y)])) a (exo a C (some dx))) hp h' := by
    constructor
    · exact fun b o q n _ _ => k b o (f3 n) q
    · exact fun b o q n _ _ => ⟨o.slots, k b o (f3 n) q⟩
    · exact fun b o q n _ => by rw [upd_ne (f3 n), upd_ne (f2 q)]; exact n
    · intro b o q _
      by_cases hb : b = a
      · exact ⟨_, by rw [hb]; exact hx⟩
      · exact ⟨o, k b o hb q⟩
    · exact fun b xs q => by rw [upd_ne (at_ne e q exo_tup), upd_ne (ne_of_none q f1)]; exact q
    · exact fun b o v q => by rw [upd_ne (at_ne e q exo_frz), upd_ne (ne_of_none q f1)]; exact q
    · exact fun b ps q => ⟨#[], by rw [upd_ne (at_ne e q exo_tbl), upd_ne (ne_of_none q f1), q]; simp⟩
  refine z dx _ f1 dne (I.un (t' := tk') U fun b o q => ?_)
  by_cases hb : b = a
  · subst hb
    rw [upd_same] at q
    cases q
    exact exo_ok hx
  · rw [upd_ne hb] at q
    by_cases hd : b = dx
    · subst hd
      rw [upd_same] at q
      cases q
      exact exd_ok hn (relO_put (fs := []) ry fun g => True.intro)
    · rw [upd_ne hd] at q
      refine (I.hok b o q).stay (fun c v hc z => k c v ?_ z) (fun c hc => ?_) (fun c xs hc => ?_)
      · rcases hc with hc | hc
        · rw [hc]; exact hb
        · exact at_ne e hc exo_own
      · rw [upd_ne (at_ne e hc exo_own), upd_ne (ne_of_none hc f1)]; exact hc
      · rw [upd_ne (at_ne e hc exo_tup), upd_ne (ne_of_none hc f1)]; exact hc
/-- KeyError.__init__(self, ..) -/
theorem kinit_ok {us : List Value} {Q : Value → Shared → Prop} (T : OexK X.K C) (I : Inv X pins σ H s) (e : H a = some (exo a C none)) (hl : us.length ≤ sizeLine) (z : ∀ s', Inv X pins σ H s' → Q .none s') :
    wpAny (model X.prog X.w) A (call (.builtin "KeyError.__init__") (.ref a :: us)) Q E s := by
  obtain ⟨nm, q, N, bs, bm, sn, sub, ab, col, dd, k0, k1, k2, k3, k5, hC, hbm⟩ := T.cls
  obtain ⟨t1, ho⟩ := exo_at I.hok e
  obtain ⟨hp, g, d, t, os⟩ := s
  refine wpAny_call (key_init hbm (I.kIn _ _ hC) ho hl fun h' t2 k hx => ?_)
  have J := I.write (t' := t) (x := a) (e := a) (o := exo a C none) (by rw [e]; exact True.intro) (.inl rfl) k ⟨_, hx⟩ (exo_ok hx)
  have eu : upd H a (exo a C none) = H := by
    funext b
    by_cases hb : b = a
    · rw [hb, upd_same, e]
    · rw [upd_ne hb]
  rw [eu] at J
  exact z _ J
end
/-- an own class over ValueError, or over KeyError -/
def OexG (K : PySem.W.Frag) (C : Addr) : Prop := OexC K C ∨ OexK K C
/-- the __init__ of what stands behind it -/
def InitId (K : PySem.W.Frag) (C : Addr) (i : String) : Prop := (OexC K C ∧ i = "ValueError.__init__") ∨ (OexK K C ∧ i = "KeyError.__init__")
theorem OexG.exC {K : PySem.W.Frag} {C : Addr} (T : OexG K C) : PySem.W.subIn K (.ref C) (.type "BaseException") = some true := T.elim (·.exC) (·.exC)
theorem OexG.tyC {K : PySem.W.Frag} {C : Addr} (T : OexG K C) : PySem.W.typeIn K (.ref C) = some (.type "type") := T.elim (·.tyC) (·.tyC)
section
variable {X : Cx} {pins : List (Addr × Obj)} {σ : L2.St} {H : Hp} {s : Shared} {a C dx : Addr} {f : Str} {y : V} {u : Value} {E : Value → Shared → Prop} {A : Around}
theorem gst_new {Q : Unit → Shared → Prop} (T : OexG X.K C) (I : Inv X pins σ H s) (e : H a = some (exo a C none)) (hno : PySem.W.findIn X.K (.ref C) f = some none) (ry : RelV y u)
    (z : ∀ dx s', H dx = none → dx ≠ a → Inv X pins σ (upd (upd H dx (exd dx [(f, y)])) a (exo a C (some dx))) s' → Q () s') : wpAny (model X.prog X.w) A (setAttr (.ref a) f u) Q E s := by
  rcases T with T | T
  · exact ost_new T I e hno ry z
  · exact kst_new T I e hno ry z
theorem ginit_ok {us : List Value} {i : String} {Q : Value → Shared → Prop} (T : InitId X.K C i) (I : Inv X pins σ H s) (e : H a = some (exo a C none)) (hl : us.length ≤ sizeLine) (z : ∀ s', Inv X pins σ H s' → Q .none s') :
    wpAny (model X.prog X.w) A (call (.builtin i) (.ref a :: us)) Q E s := by
  rcases T with ⟨T, rfl⟩ | ⟨T, rfl⟩
  · exact oinit_ok T I e hl z
  · exact kinit_ok T I e hl z
end
/-- B.__init__(self, ..) -/
def tVeG (K : PySem.W.Frag) (i : String) (ta : TA) : TE := fun σ H Q => ta σ H fun vs H1 => ∃ (a C : Addr) (ws : List V), vs = .ref a :: ws ∧ ws.length ≤ 1000 ∧ InitId K C i ∧ H1 a = some (exo a C none) ∧ Q .non H1
/-- self.f = e, the first one -/
def tOsG (K : PySem.W.Frag) (f : Str) (to te : TE) : TS := fun D σ H => te σ H fun y H1 => to σ H1 fun x H2 => ∃ a C : Addr, x = .ref a ∧ OexG K C ∧ PySem.W.findIn K (.ref C) f = some none ∧
  H2 a = some (exo a C none) ∧ ∀ dx, H2 dx = none → dx ≠ a → D.nx σ (upd (upd H2 dx (exd dx [(f, y)])) a (exo a C (some dx)))
section
variable {X : Cx} {o e : Expr} {es : List Expr} {to te : TE} {ta : TA} {f : Str} {p p' pos : Pos}
theorem ps_osG (ho : PE X o to) (he : PE X e te) (hs : swapsWith e (some (.Attribute o f p')) pos.line X.env = pure false := by rfl) : PS X (.Assign [.Attribute o f p'] e pos) (tOsG X.K f to te) := by
  refine ⟨fun pins s σ H D I h => ?_⟩
  refine plainObj_wpAny_Assign_Attribute (thn (he.run pins s σ H _ I h) fun v s1 ⟨y, H1, I1, r1, q1⟩ => thn (ho.run pins s1 σ H1 _ I1 q1) fun u s2 ⟨x, H2, I2, r2, a, C, ex, T, hno, ea, q⟩ => ?_) hs
  subst ex
  obtain rfl : u = Value.ref a := r2
  exact gst_new T I2 ea hno r1 fun dx s' n ne J => ⟨σ, _, J, q dx n ne⟩
theorem pmk_key {CX : CXT} {x : Str} {C fI : Addr} {k : Nat} {fd : FuncData} {ps : List Str} {sp : Sp} {ds : List Value} {dvs : List V} (T : OexK X.K C) (iC : PySem.W.findIn X.K (.ref C) "__init__" = some (some (.ref fI))) (tI : PySem.W.typeIn X.K (.ref fI) = some (.type "function"))
    (F1 : FnOk X.prog X.w X.K X.mg X.base CX k fI fd ps sp) (hr : Room (k + 1) X.A) (hb : Binds X.K fd ps ds) (hd : Vals dvs ds) (hx : Passes CX X (fun _ _ _ => False)) (hg : Gl X x) (hm : X.mg x = some (.ref C)) (ha : PA X (e :: es) ta)
    (hdb : (x == ("__debug__" : Str)) = false) (he : starEach (e :: es) X.env = (false, eval e X.env) :: starEach es X.env) (hpl : (backTo pos (starEach es X.env)).any (·.1) = false) :
    PMk X (.Call (.Name x p) (e :: es) [] pos) (tMkO C sp dvs ta) := by
  intro pins s σ H Q I h
  obtain ⟨nm, q, N, bs, bm, sn, sub, ab, col, dd, k0, k1, k2, k3, k5, hC, hbm⟩ := T.cls
  refine wpAny_Call_Name_kw (ld_glob I hg hm ?_ hdb)
  refine PySem.W.callWith_K (h₀ := X.base) I.ok.mod.kin T.kC (thn (ha.run pos pins s σ H _ I h) fun us s1 ⟨vs, H1, I1, r1, hz, q1⟩ => ⟨I1.kIn, ?_⟩) he hpl
  show wpAny _ _ (call (.ref C) us) _ _ _
  obtain ⟨hp, g, dr, tk, os⟩ := s1
  have n0 : hp.objs.size ≤ hp.objs.size + 1 := Nat.le_succ _
  have n1 : H1 (hp.objs.size + 1) = none := I1.hok.fresh n0
  have hq := q1 (hp.objs.size + 1) n1
  have kk : ∀ b o, hp.get? b = some o → ((hp.push (PySem.W.kdv_tup us)).push (PySem.HandSPX.excO C hp.objs.size)).get? b = some o := fun b o e => Heap.get?_push_of_some _ (Heap.get?_push_of_some _ e)
  have hget : ((hp.push (PySem.W.kdv_tup us)).push (PySem.HandSPX.excO C hp.objs.size)).get? (hp.objs.size + 1) = some (PySem.HandSPX.excO C hp.objs.size) := by heap_get
  have I2 : Inv X pins σ (upd H1 (hp.objs.size + 1) (exo (hp.objs.size + 1) C none)) ⟨(hp.push (PySem.W.kdv_tup us)).push (PySem.HandSPX.excO C hp.objs.size), g, dr, tk, os⟩ :=
    I1.laid (t' := tk) (a := hp.objs.size + 1) (o := exo (hp.objs.size + 1) C none) (h' := (hp.push (PySem.W.kdv_tup us)).push (PySem.HandSPX.excO C hp.objs.size)) kk n0 (exo_ok hget)
  have r2 : Vals (V.ref (hp.objs.size + 1) :: (vs ++ dvs)) (Value.ref (hp.objs.size + 1) :: (us ++ ds)) := .cons rfl (r1.append hd)
  have hl : (Value.ref (hp.objs.size + 1) :: us ++ ds).length = ps.length := by
    have e := r2.length
    rw [F1.len _ _ _ _ hq] at e
    exact e.symm
  have hus : us.length ≤ sizeLine := by
    rw [← Paired.length r1, sizeLine_eq]
    omega
  refine wpAny_call (key_call hbm (I1.kIn _ _ hC) (PySem.W.looks_findIn I1.kIn iC) (fun self => PySem.W.bind_fn I1.kIn self tI) hus
    (codeAny_mono (F1.run _ X.stack _ _ ⟨Value.ref (hp.objs.size + 1) :: us, []⟩ (Value.ref (hp.objs.size + 1) :: (us ++ ds)) _ _ (fun _ _ _ => False) (hr.make C us []) (I2.env0.make C us []) (hb _ (Value.ref (hp.objs.size + 1) :: us) I2.kIn hl) r2 hq) fun r s' hq' => ?_))
  cases r with
  | error er => exact hx pins σ _ _ er s' I2 hq'
  | ok fl =>
    cases fl with
    | next => exact False.elim hq'
    | brk => exact False.elim hq'
    | cont => exact False.elim hq'
    | ret u =>
      obtain ⟨v, H2, os2, bare2, un2, hok2, rv, ev, d, fs, ea, ed, hd1, q2⟩ := hq'
      subst ev
      obtain ⟨h2, g2, d2, t2, os'⟩ := s'
      exact ⟨rv, mk_end (raises_own T.exC T.tyC) I1 n0 kk un2 hok2 os2 bare2 ea ed hd1 q2⟩
theorem pmk_oexG {CX : CXT} {x : Str} {C fI : Addr} {k : Nat} {fd : FuncData} {ps : List Str} {sp : Sp} {ds : List Value} {dvs : List V} (T : OexG X.K C) (iC : PySem.W.findIn X.K (.ref C) "__init__" = some (some (.ref fI))) (tI : PySem.W.typeIn X.K (.ref fI) = some (.type "function"))
    (F1 : FnOk X.prog X.w X.K X.mg X.base CX k fI fd ps sp) (hr : Room (k + 1) X.A) (hb : Binds X.K fd ps ds) (hd : Vals dvs ds) (hx : Passes CX X (fun _ _ _ => False)) (hg : Gl X x) (hm : X.mg x = some (.ref C)) (ha : PA X (e :: es) ta)
    (hdb : (x == ("__debug__" : Str)) = false) (he : starEach (e :: es) X.env = (false, eval e X.env) :: starEach es X.env) (hpl : (backTo pos (starEach es X.env)).any (·.1) = false) :
    PMk X (.Call (.Name x p) (e :: es) [] pos) (tMkO C sp dvs ta) := by
  rcases T with T | T
  · exact pmk_oex T iC tI F1 hr hb hd hx hg hm ha hdb he hpl
  · exact pmk_key T iC tI F1 hr hb hd hx hg hm ha hdb he hpl
end
end MW
end
section
set_option Elab.async false
set_option autoImplicit false
set_option maxRecDepth 100000
set_option maxHeartbeats 1000000
/-! MW22: raise; errors made as values. -/
namespace MW
open PySem PySem.Spec PyProof.Rows L2

def visB (sc : Scope) (x : Str) : Bool := match sc.names.lookup x with
  | some .local => true | some .cell => true | some .free => true | _ => false
def locB (sc : Scope) (x : Str) : Bool := match sc.names.lookup x with
  | some .local => true | some .cell => true | _ => false
def glB (sc : Scope) (x : Str) : Bool := match sc.names.lookup x with
  | some .globalImplicit => true | _ => false

/-! ### the __init__ of an own error class: Base.__init__(self, '..'); self.n = n -/
/-- what the base's name must say -/
structure BaseI (K : PySem.W.Frag) (C : Addr) (i : String) : Prop where
  rd : PySem.W.readsIn K C (.type "type") = true
  ga : PySem.W.specialIn K (.ref C) "__getattribute__" = some (some (.builtin "type.__getattribute__"))
  fc : PySem.W.findCls K (.ref C) (.type "type") "__init__" = some (.val (.builtin i))
/-- an own class, or KeyError -/
def BaseX (K : PySem.W.Frag) (mg : Str → Option Value) (x : Str) (i : String) : Prop := (∃ W, mg x = some (.ref W) ∧ BaseI K W i) ∨ (x = "KeyError" ∧ mg x = none ∧ i = "KeyError.__init__" ∧ PySem.W.findCls K (.type "KeyError") (.type "type") "__init__" = some (.val (.builtin "KeyError.__init__")))
theorem pe_ownInit {pl : Sem Bool} {X : Cx} {x : Str} {i : String} {e : Expr} {es : List Expr} {ta : TA} {p1 p2 pos : Pos} (hg : Gl X x) (hd : (x == ("__debug__" : Str)) = false) (hh : PySem.W.handedIn (.builtin i) = true) (b : BaseX X.K X.mg x i) (ha : PA X (e :: es) ta) (hs : starEach (e :: es) X.env = (false, eval e X.env) :: starEach es X.env) (hpl : (backTo pos (starEach es X.env)).any (·.1) = false)
    (hc : eval (.Call (.Attribute (.Name x p1) "__init__" p2) (e :: es) [] pos) X.env = (do
      let v ← eval (.Name x p1) X.env
      standAt p2.atName
      let (g, ws) ← holding [v] (getMethod v "__init__" pl)
      callWith pos g ws (backTo pos (starEach (e :: es) X.env)) (backToKw pos (keywordEach [] X.env)))) :
    PE X (.Call (.Attribute (.Name x p1) "__init__" p2) (e :: es) [] pos) (tVeG X.K i ta) := by
  refine ⟨fun pins s σ H Q I h => ?_⟩
  have fin : ∀ s1, Inv X pins σ H s1 → wpAny (model X.prog X.w) X.A (callWith pos (Value.builtin i) [] (backTo pos (starEach (e :: es) X.env)) []) (EP X pins σ Q) X.xe s1 := fun s1 I1 => by
    refine PyProof.Rows.callWith_method1 (thn (ha.run pos pins _ σ H _ I1 h) fun us s1 ⟨vs, H1, I1, r1, a, C', ws, ev, hl, T, ea, q⟩ => ?_) hs hpl
    subst ev
    cases r1 with
    | @cons _ u0 _ ur ra rw' =>
      obtain rfl : u0 = Value.ref a := ra
      have hlen : ur.length ≤ sizeLine := by
        rw [← Paired.length rw', sizeLine_eq]
        omega
      exact ginit_ok T I1 ea hlen fun s' J => ⟨.non, H1, J, rfl, q⟩
  rcases b with ⟨C, hm, b⟩ | ⟨hx, hm, hi, hf⟩
  · refine PySem.W.methodCall_KW (ld_glob I hg hm ?_ hd) hc
    refine PySem.W.method_cls I.kIn b.ga (PySem.W.cls_value I.kIn b.rd b.fc hh ?_)
    exact fin _ (I.tok _)
  · have hv : bootBuiltins x = some (.type "KeyError") := by rw [hx]; exact PyProof.Rows.Boot.«KeyError»
    have hn : x ≠ "__name__" := by rw [hx]; decide
    rw [← hi] at hf
    refine PySem.W.methodCall_KW (ld_blt I hg hm hv ?_ hn hd) hc
    obtain ⟨m, fr⟩ := I.fr
    refine PySem.W.method_type fr I.ok.mod.kin typ_key (by decide +kernel) hf hh ?_
    exact fin _ (I.tok _)
theorem method_eval {o : Expr} {m : Str} {es : List Expr} {p2 pos : Pos} {env : PySem.Env} (ho : attributeBase o m env (eval o env) = eval o env) (h : es.all okHead = true) (hl : es.length < 30) (hline : (p2.endLine == pos.line) = true) :
    eval (.Call (.Attribute o m p2) es [] pos) env = (do
      let v ← eval o env
      standAt p2.atName
      let (g, ws) ← holding [v] (getMethod v m (do return (← importBound o env).getD true))
      callWith pos g ws (backTo pos (starEach es env)) (backToKw pos (keywordEach [] env))) := by
  show (do
    let v ← attributeBase o m env (eval o env)
    standAt p2.atName
    methodCall o m p2 pos env v (es.length + ([] : List Keyword).length) (backTo pos (starEach es env)) (backToKw pos (keywordEach [] env))) = _
  rw [ho]
  unfold methodCall methodCallPos calleeOf
  have few : methodCallForm (es.length + ([] : List Keyword).length) (backTo pos (starEach es env)) (backToKw pos (keywordEach [] env)) = true := by
    exact few_of h hl env pos
  have hz : (!true || p2.endLine == pos.line) = true := by rw [hline]; rfl
  rw [few]
  simp only [if_true, hz]
  rfl
/-- what such an __init__ does -/
def spInit (K : PySem.W.Frag) (C : Addr) (n : Str) : Sp := fun vs H Q _ => ∃ a v, vs = [.ref a, v] ∧ H a = some (exo a C none) ∧ ∀ dx, H dx = none → dx ≠ a → Q .non (upd (upd H dx (exd dx [(n, v)])) a (exo a C (some dx)))
/-- the text of such an __init__ -/
def initB (x n s : Str) : List Stmt → Bool
  | [.Expr (.Call (.Attribute (.Name y _) i ap) [.Name z _, .Constant (.str _) _ _] [] cp) _, .Assign [.Attribute (.Name u _) m _] (.Name v _) _] => (ap.endLine == cp.line) && decide (y = x) && decide (i = ("__init__" : Str)) && decide (z = s) && decide (u = s) && decide (m = n) && decide (v = n)
  | _ => false
def initC (x n s : Str) (sc : Scope) : Bool := glB sc x && locB sc s && locB sc n
theorem vis_plain {sc : Scope} {x : Str} (h : locB sc x = true) : Vis sc x := by
  unfold locB at h
  unfold Vis
  split at h
  · exact .inl (by assumption)
  · exact .inr (.inl (by assumption))
  · cases h
section
variable {Pg : Program} {wd : World} {K : PySem.W.Frag} {mg : Str → Option Value} {base : Heap}
theorem init_ok {k : Nat} {f C : Addr} {fd : FuncData} {qual x n s : Str} {st : Stmt} {i : String} (F : Fun K "__init__" qual st f fd) (S : FnScope [s, n] [s, n] (defScope st)) (hxd : (x == ("__debug__" : Str)) = false) (hh : PySem.W.handedIn (.builtin i) = true) (b : BaseX K mg x i) (T : InitId K C i) (hno : PySem.W.findIn K (.ref C) n = some none)
    (hb : initB x n s (defBody st) = true) (hc : initC x n s (defScope st) = true) (ds : (s == ("__debug__" : Str)) = false ∧ (s == ("__classdict__" : Str)) = false) (dn : (n == ("__debug__" : Str)) = false ∧ (n == ("__classdict__" : Str)) = false) :
    FnOk Pg wd K mg base (L2.CX Pg wd) (k + 1) f fd [s, n] (spInit K C n) := by
  refine Fun.okX F S (fun vs H Q E ⟨a, v, e, _⟩ => by rw [e]; rfl) fun cdv A outer st0 H vs Q E _ hsp => ?_
  unfold initC at hc
  simp only [Bool.and_eq_true] at hc
  obtain ⟨⟨c1, c2⟩, c3⟩ := hc
  have gX : Gl (cxOf (L2.CX Pg wd) Pg wd K mg base [s, n] qual (defScope st) f cdv A outer st0 H E) x := by
    show (defScope st).names.lookup x = _
    unfold glB at c1
    split at c1
    · assumption
    · cases c1
  generalize defBody st = body at hb ⊢
  unfold initB at hb
  split at hb
  · simp only [Bool.and_eq_true, decide_eq_true_eq] at hb
    obtain ⟨⟨⟨⟨⟨⟨hline, rfl⟩, rfl⟩, rfl⟩, rfl⟩, rfl⟩, rfl⟩ := hb
    refine ⟨_, pss_cons (ps_expr (pe_ownInit gX hxd hh b (pa_cons (pe_var (i := 0) rfl (vis_plain c2) ds.1 ds.2) (pa_cons pe_str pa_nil rfl) rfl) rfl rfl (method_eval rfl rfl (by simp) hline)) rfl) (pss_one (ps_osG (pe_var (i := 0) rfl (vis_plain c2) ds.1 ds.2) (pe_var (i := 1) rfl (vis_plain c3) dn.1 dn.2) rfl)), ?_⟩
    obtain ⟨a, v, rfl, ea, hq⟩ := hsp
    exact ⟨.ref a, rfl, a, C, [.str _], rfl, by simp, T, ea, v, rfl, .ref a, rfl, a, C, rfl, T.elim (fun t => .inl t.1) (fun t => .inr t.1), hno, ea, hq⟩
  · cases hb
end

/-! ### raise, and an error as a value, by data -/
/-- an own class of errors with one attribute -/
structure ExcI (c : Ct) (x : Str) (k : Nat) : Prop where
  ex : ∃ (C fI : Addr) (n : Str) (fd : FuncData) (ps : List Str) (j : Nat), c.P.exc k = some (C, some n) ∧ OexG c.X.K C ∧ PySem.W.findIn c.X.K (.ref C) "__init__" = some (some (.ref fI)) ∧ PySem.W.typeIn c.X.K (.ref fI) = some (.type "function") ∧
    FnOk c.X.prog c.X.w c.X.K c.X.mg c.X.base (L2.CX c.X.prog c.X.w) j fI fd ps (spInit c.X.K C n) ∧ Room (j + 1) c.X.A ∧ Binds c.X.K fd ps [] ∧ c.X.mg x = some (.ref C)
  dbg : (x == ("__debug__" : Str)) = false
/-- an own class over ValueError without an __init__ -/
structure ExcT (c : Ct) (x : Str) (k : Nat) : Prop where
  ex : ∃ C : Addr, c.P.exc k = some (C, none) ∧ PySem.W.excIn c.X.K C [.type "ValueError", .type "Exception", .type "BaseException", .type "object"] "ValueError.__new__" = true ∧ c.X.mg x = some (.ref C) ∧ PySem.W.keepIn c.X.K (.ref C) = true ∧ PySem.W.subIn c.X.K (.ref C) (.type "BaseException") = some true ∧ PySem.W.typeIn c.X.K (.ref C) = some (.type "type")
  dbg : (x == ("__debug__" : Str)) = false
theorem del_upd {H : Hp} {a dx : Addr} {u : HO} (na : H a = none) : del (upd H a u) a = H := by
  funext b
  by_cases q : b = a
  · subst q; rw [del_same, na]
  · rw [del_ne q, upd_ne q]
theorem upd_upd {H : Hp} {a : Addr} {u v : HO} : upd (upd H a u) a v = upd H a v := by
  funext b
  by_cases q : b = a
  · subst q; rw [upd_same, upd_same]
  · rw [upd_ne q, upd_ne q, upd_ne q]
section
variable {c : Ct} {fl flo flb : Fls} {e : Expr} {md : Md} {fe : En → M D} {pos p : Pos} {x : Str} {k : Nat}
theorem pmk_I (G : ExcI c x k) (hg : Gl c.X x) (he : JX c fl e .F fe) : PMk c.X (.Call (.Name x p) [e] [] pos) fun σ H Q => tD c fl .F fe σ H fun v H1 => ∀ C n dx, c.P.exc k = some (C, some n) → H1 dx = none → Q (.ref C) (some dx) (upd H1 dx (.xd [(n, v)])) := by
  obtain ⟨C, fI, n, fd, ps, j, q1, q2, q3, q4, q5, q6, q7, q8⟩ := G.ex
  have P := pmk_oexG (p := p) (pos := pos) (dvs := []) q2 q3 q4 q5 q6 q7 .nil passL hg q8 (pa_cons he.pe pa_nil (star_of he.hd _ _)) G.dbg (star_of he.hd _ _) rfl
  intro pins s σ H Q I h
  refine P pins s σ H Q I ?_
  obtain ⟨g, ρ, S, r⟩ := h
  refine ⟨g, ρ, S, r.imp fun d g1 H1 l1 x1 h1 v pv => ⟨by simp, fun a na => ⟨a, v, rfl, upd_same, fun dx nx ne => ⟨rfl, dx, [(n, v)], upd_same, ?_, ?_, ?_⟩⟩⟩⟩
  · rw [upd_ne ne, upd_same]
  · rw [upd_ne ne] at nx; exact nx
  · rw [upd_ne ne] at nx
    have := h1 v pv C n dx q1 nx
    have e1 : upd (del (upd (upd (upd H1 a (exo a C none)) dx (exd dx [(n, v)])) a (exo a C (some dx))) a) dx (.xd [(n, v)]) = upd H1 dx (.xd [(n, v)]) := by
      funext b
      by_cases q : b = dx
      · subst q; rw [upd_same, upd_same]
      · rw [upd_ne q, upd_ne q]
        by_cases q2 : b = a
        · subst q2; rw [del_same, na]
        · rw [del_ne q2, upd_ne q2, upd_ne q, upd_ne q2]
    rw [e1]
    exact this
theorem js_raise {pos' : Pos} (ok : c.Ok) (G : ExcI c x k) (hg : Gl c.X x) (he : JX c fl e .F fe) : JS c fl flo flb (.Raise (some (.Call (.Name x p) [e] [] pos)) none pos') fun ρ => M.bind (fe ρ) fun d => M.raise k d := by
  refine ⟨(ps_raise ok.calm ok.tk (pmk_I (p := p) (pos := pos) G hg he)).imp fun D σ H ⟨g, ρ, S, r⟩ => ⟨g, ρ, S, (OutS.bind (σ := σ) S.ext r).imp fun d g1 H1 l1 x1 h1 v pv C n dx hx nx => ?_⟩⟩
  have x2 : Ext g1 H1 (g1.frz dx (.xd [(n, v)])) (upd H1 dx (.xd [(n, v)])) := Ext.newF l1 nx
  exact h1 (g1.frz dx (.xd [(n, v)])) _ σ rfl (l1.newF nx) ((S.ext.trans x1).trans x2) C (some n) (some dx) hx ⟨v, upd_same, Rp.ext x2 pv⟩
theorem pmk_T {m : Str} {j : Nat} {p2 : Pos} (G : ExcT c x k) (hg : Gl c.X x) : PMk c.X (.Call (.Name x p) [.Constant (.str m) j p2] [] pos) fun _ H Q => ∀ C, c.P.exc k = some (C, none) → Q (.ref C) none H := by
  obtain ⟨C, h1, h2, h3, h4, h5, h6⟩ := G.ex
  have P := pmk_own (p := p) (pos := pos) (m := m) (j := j) (p2 := p2) PySem.F.excBase_ValueError h2 h3 h4 (raises_own h5 h6) hg G.dbg
  intro pins s σ H Q I h
  exact P pins s σ H Q I (h C h1)
theorem js_raiseT {m : Str} {j : Nat} {p2 pos' : Pos} (ok : c.Ok) (G : ExcT c x k) (hg : Gl c.X x) : JS c fl flo flb (.Raise (some (.Call (.Name x p) [.Constant (.str m) j p2] [] pos)) none pos') fun _ => M.raise k .non := by
  refine ⟨(ps_raise ok.calm ok.tk (pmk_T (p := p) (pos := pos) (m := m) (j := j) (p2 := p2) G hg)).imp fun D σ H ⟨g, ρ, S, r⟩ C hx => ?_⟩
  exact r g H σ rfl S.lay S.ext C none none hx rfl
end
end MW
end
section
set_option Elab.async false
set_option autoImplicit false
set_option maxRecDepth 100000
/-! MW23: errors as values: their attribute, isinstance, making one. -/
namespace MW
open PySem PySem.Spec PyProof.Rows L2
/-- what the classes of errors say -/
structure ExFacts (K : PySem.W.Frag) (C : Addr) : Prop where
  hg : PySem.W.findIn K (.ref C) "__getattribute__" = some (some (.builtin "BaseException.__getattribute__"))
  hk : PySem.W.findIn K (.ref C) "__getattr__" = some none
  hs : PySem.W.subIn K (.ref C) (.type "BaseException") = some true
  hd : PySem.W.hasDictIn K C = true
  hc : (PySem.W.clsIn K C).isSome = true
  ha : PySem.W.findIn K (.ref C) "__class__" = some (some (.builtin "object.__class__"))
  hn : PySem.W.specialIn K (.builtin "object.__class__") "__get__" = some (some (.builtin "getset_descriptor.__get__"))
  ht : PySem.W.takesIn K (.builtin "object.__class__") = some true
  hm : PySem.W.mroIn K C (.type "object") = some true
structure ExOk (c : Ct) : Prop where
  ok : ∀ k C n, c.P.exc k = some (C, n) → ExFacts c.X.K C ∧ ∀ m, n = some m → PySem.W.findIn c.X.K (.ref C) m = some none
section
variable {c : Ct}
/-- an error that stands for a datum, in the machine's heap -/
theorem exn_at {pins : List (Addr × Obj)} {σ : L2.St} {g : Gh} {H Hb : Hp} {s : Shared} {v : V} {u : Value} {k : Nat} {d : D} (I : Inv c.X pins σ H s) (l : Lay c.P g H) (p : Post c.P Hb .P g H v (.exn k d)) (r : RelV v u) :
    ∃ (a C : Addr) (n : Option Str) (oe : Obj) (vs : Array Value) (dx : Option Addr), v = .ref a ∧ u = .ref a ∧ c.P.exc k = some (C, n) ∧ s.heap.get? a = some oe ∧ Zc (.ref C) dx oe ∧ oe.data = .fields vs ∧ XDat c.P g.G g.am n dx d := by
  have p' := p.nl (fun l z => nomatch z)
  cases p' with
  | @exn a C dx k n w d hx h1 h2 h3 =>
    obtain ⟨⟨oe, vs, q1, q2, q3⟩, _⟩ : ExA C (some dx) a |> fun o => ObjOk c.X.prog c.X.w H s.heap a o := I.hok _ _ (l.gh _ _ h1)
    exact ⟨a, C, some n, oe, vs, some dx, rfl, r, hx, q1, q2, q3, ⟨w, h2, h3⟩⟩
  | @exn0 a C k hx h1 =>
    obtain ⟨⟨oe, vs, q1, q2, q3⟩, _⟩ : ExA C none a |> fun o => ObjOk c.X.prog c.X.w H s.heap a o := I.hok _ _ (l.gh _ _ h1)
    exact ⟨a, C, none, oe, vs, none, rfl, r, hx, q1, q2, q3, rfl⟩
theorem exn_inst {pins : List (Addr × Obj)} {σ : L2.St} {g : Gh} {H : Hp} {s : Shared} {a C : Addr} {n : Option Str} {oe : Obj} {vs : Array Value} {dx : Option Addr} {d : D} (I : Inv c.X pins σ H s) (l : Lay c.P g H) (h1 : s.heap.get? a = some oe) (h2 : Zc (.ref C) dx oe) (h3 : oe.data = .fields vs) (h4 : XDat c.P g.G g.am n dx d) :
    ∃ od, PySem.W.InstAt s.heap a oe C od ∧ ∀ m, n = some m → ∃ o u w, od = some o ∧ PySem.W.lookIn m o = some (some u) ∧ RelV w u ∧ Rp c.P g.G g.am w d := by
  cases n with
  | none =>
    cases dx with
    | some dx => exact h4.elim
    | none => exact ⟨none, ⟨h1, h2.1, by unfold PySem.W.notCls; rw [h3] <;> rfl, by rw [h2.2]; trivial⟩, fun m e => nomatch e⟩
  | some n =>
    cases dx with
    | none => exact h4.elim
    | some dx =>
      obtain ⟨w, e1, e2⟩ := h4
      have hx : ObjOk c.X.prog c.X.w H s.heap dx (.xd [(n, w)]) := I.hok dx _ (l.gh _ _ e1)
      obtain ⟨mA, hns, hr⟩ := hx
      obtain ⟨od, ho, hl⟩ := lookIn_ns hns
      obtain ⟨u, hu, ru⟩ := RelO.some_of (v := w) (o := mA n) (by
        have := hr n
        rwa [show ([(n, w)] : List (Str × V)).lookup n = some w from by simp [List.lookup]] at this)
      refine ⟨some od, ⟨h1, h2.1, by unfold PySem.W.notCls; rw [h3] <;> rfl, by rw [h2.2]; exact ho⟩, fun m e => ?_⟩
      cases e
      exact ⟨od, u, w, rfl, by rw [hl, hu], ru, e2⟩
variable {fl : Fls} {a : Expr} {ma : Md} {fa : En → M D} {pos p p2 p3 p4 : Pos}
/-- the datum of an error, by the attribute n; nm: the attributes of the classes -/
def exDat (nm : Nat → Option Str) (n : Str) : D → M D
  | .exn k d => if nm k = some n then M.pure d else M.bad
  | _ => M.bad
def asExn : D → M Nat
  | .exn k _ => M.pure k
  | _ => M.bad
theorem jx_exAttr (X : ExOk c) {nm : Nat → Option Str} {n : Str} (hn : ∀ k C m, c.P.exc k = some (C, m) → m = nm k) (ha : JX c fl a ma fa) (hb : attributeBase a n c.X.env (eval a c.X.env) = eval a c.X.env) :
    JX c fl (.Attribute a n pos) .F fun ρ => M.bind (fa ρ) (exDat nm n) := by
  refine ⟨⟨fun pins s σ H Q I ⟨g, ρ, S, r⟩ => ?_⟩, rfl⟩
  refine attr_of hb (thn (ha.pe.run pins s σ H _ I ⟨g, ρ, S, r.bind.imp fun d1 g1 H1 l1 x1 h1 v q => (⟨g1, d1, l1, q.toP, h1⟩ : ∃ g1 d1, Lay c.P g1 H1 ∧ Post c.P H .P g1 H1 v d1 ∧ Res c.P g1 H1 (c.ew σ) (exDat nm n d1 g1.w) fun d g' H' => ∀ v, Post c.P H .F g' H' v d → Q v H')⟩) fun u s1 ⟨v, H1, I1, rv, g1, d1, l1, q, h1⟩ => ?_)
  cases d1 with
  | exn k d =>
    have h2 : Res c.P g1 H1 (c.ew σ) ((if nm k = some n then M.pure d else M.bad) g1.w) fun d g' H' => ∀ v, Post c.P H .F g' H' v d → Q v H' := h1
    split at h2
    · rename_i hz
      obtain ⟨ad, C, m, oe, vs, dx, rfl, rfl, hx, q1, q2, q3, q4⟩ := exn_at I1 l1 q rv
      have em := hn k C m hx
      rw [hz] at em
      obtain ⟨od, J, hj⟩ := exn_inst I1 l1 q1 q2 q3 q4
      obtain ⟨o, u, w, rfl, hl, ru, rp⟩ := hj n em
      obtain ⟨T, hno⟩ := X.ok k C m hx
      exact HandSPX.exc_get I1.kIn J T.hg T.hk T.hs (PySem.W.findObj_own T.hd (hno n em) rfl hl) (handed_of ru) ⟨w, H1, I1.tok _, ru, h2.pure l1 w rp⟩
    · exact h2.elim
  | _ => exact h1.elim
/-- isinstance(e, T) -/
theorem jx_isE (X : ExOk c) {T : Str} {cv : Value} {is : Nat → Option Bool} (hg : Gl c.X "isinstance") (hm : c.X.mg "isinstance" = none) (hT : ∃ w, PE c.X (.Name T p2) (tC w) ∧ ∀ u, RelV w u → u = cv) (tb : ∀ k C n b, c.P.exc k = some (C, n) → is k = some b → PySem.W.kitOne c.X.K (.ref C) cv = some b) (ha : JX c fl a ma fa) :
    JX c fl (.Call (.Name "isinstance" p) [a, .Name T p2] [] pos) .F fun ρ => M.bind (fa ρ) fun x => M.bind (asExn x) fun k => M.bind (M.opt (is k)) fun b => M.pure (.bl b) := by
  obtain ⟨w, pT, hw⟩ := hT
  have call : CallR c.X (.builtin "isinstance") (fun vs H Q => ∃ g Hb v k d b, vs = [v, w] ∧ Lay c.P g H ∧ Post c.P Hb .P g H v (.exn k d) ∧ is k = some b ∧ Q (.bl b) H) := by
    intro pins s σ H xs us Q I r ⟨g, Hb, v, k, d, b, e, l, q, eb, hq⟩
    subst e
    cases r with
    | cons rx rr =>
      cases rr with
      | cons rt rr =>
        cases rr
        have ec := hw _ rt
        subst ec
        obtain ⟨ad, C, m, oe, vs, dx, rfl, rfl, hx, q1, q2, q3, q4⟩ := exn_at I l q rx
        obtain ⟨od, J, _⟩ := exn_inst I l q1 q2 q3 q4
        obtain ⟨T, _⟩ := X.ok k C m hx
        exact PySem.W.kia_one (PySem.W.kitx_exc T.hc T.hg T.hk T.hs T.ha T.hn T.ht T.hm) I.kIn J (tb k C m b hx eb) (fun z => nomatch z) fun tk => ⟨.bl b, H, I.kept (t' := tk) fun _ _ z => z, rfl, hq⟩
  refine ⟨(pe_callB call hg hm (by decide +kernel) (pa_cons ha.pe (pa_cons pT pa_nil) (star_of ha.hd _ _)) (he := star_of ha.hd _ _)).imp fun σ H Q ⟨g, ρ, S, r⟩ => ⟨g, ρ, S, r.bind.imp fun d1 g1 H1 l1 x1 h1 v q => ?_⟩, rfl⟩
  cases d1 with
  | exn k d =>
    have h2 : Res c.P g1 H1 (c.ew σ) (M.bind (M.opt (is k)) (fun b => M.pure (.bl b)) g1.w) fun d g' H' => ∀ v, Post c.P H .F g' H' v d → Q v H' := h1
    obtain ⟨b, eb, h3⟩ := h2.bind.opt
    exact ⟨g1, H, v, k, d, b, rfl, l1, q.toP, eb, (h3.here l1).pure l1 _ (Rp.bl b)⟩
  | _ => exact h1.elim
/-- isinstance(e, (T1, T2)) -/
theorem jx_isE2 (X : ExOk c) {T1 T2 : Str} {c1 c2 : Value} {w1 w2 : V} {k2 : Nat} {is : Nat → Option Bool} (hg : Gl c.X "isinstance") (hm : c.X.mg "isinstance" = none) (h1 : PE c.X (.Name T1 p2) (tC w1)) (e1 : ∀ u, RelV w1 u → u = c1) (h2 : PE c.X (.Name T2 p3) (tC w2)) (e2 : ∀ u, RelV w2 u → u = c2)
    (tb : ∀ k C n b, c.P.exc k = some (C, n) → is k = some b → PySem.W.kitAny c.X.K (.ref C) [c1, c2] = some b) (ha : JX c fl a ma fa) :
    JX c fl (.Call (.Name "isinstance" p) [a, .Tuple [.Name T1 p2, .Name T2 p3] k2 p4] [] pos) .F fun ρ => M.bind (fa ρ) fun x => M.bind (asExn x) fun k => M.bind (M.opt (is k)) fun b => M.pure (.bl b) := by
  have call : CallR c.X (.builtin "isinstance") (fun vs H Q => ∃ g Hb H0 v k d b tp, vs = [v, .ref tp] ∧ H tp = some (.tup [w1, w2]) ∧ Lay c.P g H ∧ Post c.P Hb .P g H0 v (.exn k d) ∧ is k = some b ∧ Q (.bl b) H) := by
    intro pins s σ H xs us Q I r ⟨g, Hb, H0, v, k, d, b, tp, e, htp, l, q, eb, hq⟩
    subst e
    cases r with
    | cons rx rr =>
      cases rr with
      | cons rt rr =>
        cases rr
        have et : _ = Value.ref tp := rt
        subst et
        have q' : Post c.P Hb .P g H v (.exn k d) := .inl (q.nl fun l z => nomatch z)
        obtain ⟨ad, C, m, oe, vs, dx, rfl, rfl, hx, q1, q2, q3, q4⟩ := exn_at I l q' rx
        obtain ⟨od, J, _⟩ := exn_inst I l q1 q2 q3 q4
        obtain ⟨T, _⟩ := X.ok k C m hx
        have ht : ObjOk c.X.prog c.X.w H s.heap tp (.tup [w1, w2]) := I.hok _ _ htp
        obtain ⟨_, its, rv, hi⟩ := ht
        obtain ⟨u1, u2, rfl, r1, r2⟩ := Vals.two rv
        rw [e1 u1 r1, e2 u2 r2] at hi
        obtain ⟨o, hget, hcl, n, hdt⟩ := hi
        obtain ⟨oc, od', dt, sl⟩ := o
        simp only at hcl hdt
        subst hcl hdt
        exact PySem.W.kia_tup (PySem.W.kitx_exc T.hc T.hg T.hk T.hs T.ha T.hn T.ht T.hm) I.kIn J hget (tb k C m b hx eb) (fun z => nomatch z) fun tk => ⟨.bl b, H, I.kept (t' := tk) fun _ _ z => z, rfl, hq⟩
  refine ⟨(pe_callB call hg hm (by decide +kernel) (pa_cons ha.pe (pa_cons (pe_tup (pa_cons h1 (pa_cons h2 pa_nil (star_of rfl _ _)) (star_of rfl _ _))) pa_nil rfl) (star_of ha.hd _ _)) (he := star_of ha.hd _ _)).imp fun σ H Q ⟨g, ρ, S, r⟩ => ⟨g, ρ, S, r.bind.imp fun d1 g1 H1 l1 x1 h1 v q => ?_⟩, rfl⟩
  cases d1 with
  | exn k d =>
    have h2 : Res c.P g1 H1 (c.ew σ) (M.bind (M.opt (is k)) (fun b => M.pure (.bl b)) g1.w) fun d g' H' => ∀ v, Post c.P H .F g' H' v d → Q v H' := h1
    obtain ⟨b, eb, h3⟩ := h2.bind.opt
    refine ⟨by show 2 ≤ sizeLine; decide, fun tp nt => ⟨g1.frz tp (.tup [w1, w2]), H, H1, v, k, d, b, tp, rfl, upd_same, l1.newF nt, ?_, eb, ?_⟩⟩
    · have q' : Rp c.P g1.G g1.am v (.exn k d) := q.toP.nl fun l z => nomatch z
      exact .inl (q'.ext (Ext.newF l1 nt))
    · exact Res.pure (h3 (g1.frz tp (.tup [w1, w2])) _ rfl (l1.newF nt) (Ext.newF l1 nt)) (l1.newF nt) _ (Rp.bl b)
  | _ => exact h1.elim

/-! ### an error is made, and kept -/
theorem pe_made {X : Cx} {e : Expr} {t : L2.St → Hp → XK → Prop} (h : PMk X e t) : PE X e fun σ H Q => t σ H fun cls d H' => ∃ C, cls = .ref C ∧ ∀ a, H' a = none → Q (.ref a) (upd H' a (ExA C d a)) := by
  refine ⟨fun pins s σ H Q I hq => thn (h pins s σ H _ I hq) fun u s' hh => ?_⟩
  obtain ⟨a, oe, vs, sI, H', cls, d, rfl, J, kp, hn, he, hz, hd, h1, na, os, ag, _, C, rfl, q⟩ := hh
  have J2 : Inv X pins σ H' s' := J.call' (ch := []) os (Un.kept kp) (J.hok.kept kp) ag (by simp)
  refine ⟨.ref a, _, inv_adopt J J2 hn na (fun z => ?_) (fun z => ?_) (fun x c e z => ?_) (fun p hp z => ?_) (exA_ok he hz hd), rfl, q a na⟩
  · obtain ⟨m, ⟨o, es, ep, ho, _⟩, _⟩ := J.loc
    rw [← z, hn] at ho
    cases ho
  · obtain ⟨_, o, ho, _⟩ := J.funs.mem z
    rw [hn] at ho
    cases ho
  · obtain ⟨v, o, ho, _⟩ := J.cell x c e
    rw [z, hn] at ho
    cases ho
  · have := (J.pin p hp).1
    rw [z, hn] at this
    cases this
theorem jx_mkexc {x : Str} {k : Nat} {fe : En → M D} {e : Expr} (G : ExcI c x k) (hg : Gl c.X x) (he : JX c fl e .F fe) : JX c fl (.Call (.Name x p) [e] [] pos) .F fun ρ => M.bind (fe ρ) fun d => M.pure (.exn k d) := by
  refine ⟨(pe_made (pmk_I (p := p) (pos := pos) G hg he)).imp fun σ H Q ⟨g, ρ, S, r⟩ => ⟨g, ρ, S, r.bind.imp fun d g1 H1 l1 x1 h1 v pv C n dx hx nx => ⟨C, rfl, fun a na => ?_⟩⟩, rfl⟩
  have x2 : Ext g1 H1 (g1.frz dx (.xd [(n, v)])) (upd H1 dx (.xd [(n, v)])) := Ext.newF l1 nx
  have l2 := l1.newF (o := .xd [(n, v)]) nx
  have x3 := Ext.newF (o := ExA C (some dx) a) l2 na
  have l3 := l2.newF (o := ExA C (some dx) a) na
  have rp : Rp c.P ((g1.frz dx (.xd [(n, v)])).frz a (ExA C (some dx) a)).G ((g1.frz dx (.xd [(n, v)])).frz a (ExA C (some dx) a)).am (.ref a) (.exn k d) :=
    .exn hx upd_same (x3.gg _ _ upd_same) ((Rp.ext x2 pv).ext x3)
  exact h1 ((g1.frz dx (.xd [(n, v)])).frz a (ExA C (some dx) a)) _ rfl l3 (x2.trans x3) _ rp
theorem jx_mkT {x m : Str} {k j : Nat} (G : ExcT c x k) (hg : Gl c.X x) : JX c fl (.Call (.Name x p) [.Constant (.str m) j p2] [] pos) .F fun _ => M.pure (.exn k .non) := by
  refine ⟨(pe_made (pmk_T (p := p) (pos := pos) (m := m) (j := j) (p2 := p2) G hg)).imp fun σ H Q ⟨g, ρ, S, r⟩ C hx => ⟨C, rfl, fun a na => ?_⟩, rfl⟩
  exact r (g.frz a (ExA C none a)) _ rfl (S.lay.newF na) (Ext.newF (o := ExA C none a) S.lay na) _ (.exn0 hx upd_same)
end
end MW
end
section
set_option Elab.async false
set_option autoImplicit false
set_option maxRecDepth 100000
set_option maxHeartbeats 1000000
/-! MW24: enumerate over lists and tuples. -/
namespace MW
open PySem PySem.Spec PyProof.Rows L2

theorem meets_enum1 {v : Value} {o : Obj} {H : Heap → Prop} (B : Begins v o H) :
    Meets (Builtin.«enumerate.__new__» ⟨[.type "enumerate", v], []⟩) (fun _ R s => H s.heap ∧
      R (.ok (.ret (.ref (s.heap.push o).objs.size))) { s with heap := (s.heap.push o).push { cls := .type "enumerate", data := .fields #[.none, .bool false, .ref s.heap.objs.size, rawInt 0, .none, .none] } }) :=
  .of_wp fun prog w A R s h => by
    obtain ⟨hp, g, d, tk, os⟩ := s
    obtain ⟨h1, h⟩ := h
    have hsub := sub_enumerate
    have q1 : ∀ {A' : Around} {E : Value → Shared → Prop} {Q : Value → Shared → Prop}, Q (.ref hp.objs.size) ⟨hp.push o, g, d, tk, os⟩ → wpAny (model prog w) A' (pyIter v) Q E ⟨hp, g, d, tk, os⟩ :=
      fun q => B.iter prog w _ _ ⟨hp, g, d, tk, os⟩ _ h1 q
    wp_walk using q1
    refine wpAny_stack_any fun st => wpAny_pure ?_
    split
    · rename_i c _ _ _ _ _
      cases (c == Value.type "enumerate")
      · wp_walk using q1
        exact ⟨_, rfl, h⟩
      · wp_walk using q1
        exact ⟨_, rfl, h⟩
    · wp_walk using q1
      exact ⟨_, rfl, h⟩
theorem enum1 {prog : Program} {w : World} {A : Around} {E : Value → Shared → Prop} {s : Shared} {v : Value} {o : Obj} {H : Heap → Prop} {Q : Value → Shared → Prop} (B : Begins v o H) (h1 : H s.heap)
    (h : ∀ h', IsEnum h' (s.heap.objs.size + 1) s.heap.objs.size 0 .none → h'.get? s.heap.objs.size = some o → (∀ b u, s.heap.get? b = some u → h'.get? b = some u) → Q (.ref (s.heap.objs.size + 1)) { s with heap := h' }) :
    wpAny (model prog w) A (call (.type "enumerate") [v]) Q E s := by
  refine callType_new F.called_enumerate (by decide) (F.typeCall_enumerate_1 _) (F.newCall_enumerate_1 _) (fun obj => F.args_object_init_2 obj _) F.entry_enumerate_new (meets_enum1 B) ⟨h1, ?_⟩
  have hz : (s.heap.push o).objs.size = s.heap.objs.size + 1 := Heap.size_push ..
  have he : IsEnum ((s.heap.push o).push { cls := .type "enumerate", data := .fields #[.none, .bool false, .ref s.heap.objs.size, rawInt 0, .none, .none] }) (s.heap.objs.size + 1) s.heap.objs.size 0 .none := by
    have := Heap.get?_push_size (s.heap.push o) (o := { cls := .type "enumerate", data := .fields #[.none, .bool false, .ref s.heap.objs.size, rawInt 0, .none, .none] }) rfl
    rw [hz] at this
    exact this
  show _ ∧ _
  rw [hz]
  exact ⟨⟨_, he, rfl⟩, h _ he (Heap.get?_push_of_some _ (Heap.get?_push_size _ B.free)) fun b u x => Heap.get?_push_of_some _ (Heap.get?_push_of_some _ x)⟩
/-- a list or a tuple at a -/
def SqE (b : Bool) (K : PySem.W.Frag) (H : Hp) (a : Addr) (xs : List V) : Prop := if b then SqL K H a xs else SqT K H a xs
/-- its items in new pairs -/
def Itp (b : Bool) (K : PySem.W.Frag) (a : Addr) : It :=
  ⟨fun i H => ∃ (xs : List V) (x : V), SqE b K H a xs ∧ xs[i]? = some x, fun i H v H' => ∃ T x, v = .ref T ∧ H T = none ∧ H' = upd H T (.tup [.int (i : Nat), x]) ∧ ∀ xs, SqE b K H a xs → xs[i]? = some x, fun i H => ∃ xs : List V, SqE b K H a xs ∧ xs.length = i⟩
def seqO (b : Bool) (a : Addr) : Obj := if b then { cls := .type "list_iterator", data := .fields #[.ref a, .int 0 0] } else { cls := .type "tuple_iterator", data := .fields #[.ref a, .int 0 0] }
def SeqIt (b : Bool) (h : Heap) (it a : Addr) (i : Nat) : Prop := if b then h.IsListIter it a i else h.IsTupleIter it a i
def SeqIs (b : Bool) (h : Heap) (a : Addr) (its : Array Value) : Prop := if b then h.IsList a its else h.IsTuple a its
theorem draws_seq {prog : Program} {w : World} {A : Around} (b : Bool) (hh : A.handled = none) (it a : Addr) (hne : a ≠ it) (its : Array Value) :
    Draws prog w A it [it, a] its.size (fun i v => its[i]? = some v) (fun i h => SeqIt b h it a i ∧ SeqIs b h a its) := by
  cases b with
  | true => exact Draws.list hh it a hne its
  | false => exact Draws.tuple hh it a hne its
section
variable {X : Cx} {pins : List (Addr × Obj)} {σ : L2.St} {H : Hp} {s : Shared} {b : Bool} {a : Addr} {xs ys : List V}
theorem sq_at (I : Inv X pins σ H s) (h : SqE b X.K H a xs) : ∃ its : List Value, Vals xs its ∧ SeqIs b s.heap a its.toArray := by
  cases b with
  | true => obtain ⟨its, rv, p, _⟩ := I.list h; exact ⟨its, rv, p.isList⟩
  | false => obtain ⟨its, rv, p, _⟩ := I.tuple h; exact ⟨its, rv, p⟩
theorem sq_inj (I : Inv X pins σ H s) (h : SqE b X.K H a xs) (h' : SqE b X.K H a ys) : xs = ys := by
  cases b with
  | true => exact I.list_inj h h'
  | false => exact I.tuple_inj h h'
theorem seqIt_obj {h : Heap} {it : Addr} {i : Nat} (x : SeqIt b h it a i) : ∃ o, h.get? it = some o ∧ ∀ v, o.data ≠ .cell v := by
  cases b with
  | true => obtain ⟨o, ho, _, hd⟩ := x; exact ⟨o, ho, fun v q => by rw [hd] at q; cases q⟩
  | false => obtain ⟨o, ho, _, hd⟩ := x; exact ⟨o, ho, fun v q => by rw [hd] at q; cases q⟩
theorem seqIt_at {h h' : Heap} {it : Addr} {i : Nat} (x : SeqIt b h it a i) (k : ∀ o, h.get? it = some o → h'.get? it = some o) : SeqIt b h' it a i := by
  cases b with
  | true => obtain ⟨o, ho, r⟩ := x; exact ⟨o, k o ho, r⟩
  | false => obtain ⟨o, ho, r⟩ := x; exact ⟨o, k o ho, r⟩
end
theorem turn_pairs {P : Program} {w : World} {K : PySem.W.Frag} {elts : List Expr} {kk : Nat} {tpos : Pos} (b : Bool) (a e it : Addr) :
    Turn P w K (.Tuple elts kk tpos) (Itp b K a) [e, it] e (fun i h => (∃ old, IsEnum h e it ((i : Nat) : Int) old) ∧ SeqIt b h it a i ∧ e ≠ it ∧ a ≠ it ∧ a ≠ e) where
  mem := by simp
  obj := fun i h st c hc => by
    obtain ⟨⟨old, he⟩, hi, _⟩ := st
    have e' : c = e ∨ c = it := by simpa using hc
    rcases e' with z | z
    · rw [z]; exact ⟨_, he, fun v q => nomatch q⟩
    · rw [z]; exact seqIt_obj hi
  keep := fun i h h' ⟨⟨old, he⟩, hi, hne⟩ k => ⟨⟨old, k e (by simp) _ he⟩, seqIt_at hi fun o q => k it (by simp) o q, hne⟩
  item := by
    intro X hP hw hK hc i pins s σ H E I hf st hg
    subst hP hw hK
    obtain ⟨⟨old, he⟩, hit, hne, na, nae⟩ := st
    obtain ⟨xs, x, hq, hx⟩ := hg
    obtain ⟨its, rv, p⟩ := sq_at I hq
    obtain ⟨u, hu, ru⟩ := rv.get hx
    have hel : e < s.heap.objs.size := Heap.lt_size he
    have hil : it < s.heap.objs.size := by obtain ⟨_, q, _⟩ := seqIt_obj hit; exact Heap.lt_size q
    have D := draws_seq (prog := X.prog) (w := X.w) (A := X.A.in1) b (I.ok.hd hc) it a na its.toArray
    have hlt : i < its.toArray.size := by
      have := List.getElem?_eq_some_iff.mp hu
      obtain ⟨h1, _⟩ := this
      simpa using h1
    refine wpAny_pyNext_enum_itemD D he ⟨hit, p⟩ hlt hne (by simp [hne, Ne.symm nae]) fun y h' tk hy ho hit' hT hsz hk => ?_
    have ey : y = u := by
      have hy' : its.toArray[i]? = some y := hy
      rw [List.getElem?_toArray, hu] at hy'
      cases hy'
      rfl
    subst ey
    refine ⟨_, rfl, wpAny_letOwnedTupleGo_enum (s := { s with heap := h', toks := tk + 1 }) ho fun h'' he' sb => ?_⟩
    have hT2 : h''.get? s.heap.objs.size = some { cls := .type "tuple", data := .seq #[.int i tk, y] } := (sb.2 _ (Nat.ne_of_gt hel)).trans hT
    have new : ObjOk X.prog X.w (upd H s.heap.objs.size (.tup [.int (i : Nat), x])) h'' s.heap.objs.size (.tup [.int (i : Nat), x]) :=
      ⟨by show 2 ≤ sizeLine; decide, [.int i tk, y], .cons ⟨_, rfl⟩ (.cons ru .nil), ⟨_, hT2, rfl, _, rfl⟩⟩
    have I1 : Inv X pins σ (upd H s.heap.objs.size (.tup [.int (i : Nat), x])) { s with heap := h'', toks := tk + 1 } :=
      I.turnedNew (ch := [e, it]) (fun c oc hc q => (sb.2 c (fun z => hc (by simp [z]))).trans (hk c oc (fun z => hc (by simp [z])) (fun z => hc (by simp [z])) q)) hf (Nat.le_refl _) new
    refine ⟨.ref s.heap.objs.size, _, I1, rfl, ⟨_, x, rfl, I.hok.fresh (Nat.le_refl _), rfl, fun ys hy => by rw [sq_inj I hy hq]; exact hx⟩, ⟨⟨y, ?_⟩, seqIt_at hit'.1 fun o q => (sb.2 it (Ne.symm hne)).trans q, hne, na, nae⟩, fun c hc => ?_⟩
    · have e1 : ((i + 1 : Nat) : Int) = (i : Int) + 1 := by omega
      rw [e1]; exact he'
    · have hb' : c < s.heap.objs.size := by
        have e' : c = e ∨ c = it := by simpa using hc
        rcases e' with z | z
        · rw [z]; exact hel
        · rw [z]; exact hil
      rw [upd_ne (Nat.ne_of_lt hb')]
      exact (hf c hc).1
  done := by
    intro X hP hw hK hc i pins s σ H E I hf st hg
    subst hP hw hK
    obtain ⟨⟨old, he⟩, hit, hne, na, nae⟩ := st
    obtain ⟨xs, hq, hx⟩ := hg
    obtain ⟨its, rv, p⟩ := sq_at I hq
    obtain ⟨f0, f1, f2, f3, f4, f5⟩ := hf it (by simp)
    have hl := rv.length
    have D := draws_seq (prog := X.prog) (w := X.w) (A := X.A.in1) b (I.ok.hd hc) it a na its.toArray
    have en : i = its.toArray.size := by simp; omega
    exact wpAny_pyNext_enum_endD D he ⟨en ▸ hit, p⟩ fun h' eb => ⟨rfl, I.turned (t' := s.toks) (fun c o hc q => eb c o hc q) f0 f1 f3 f4 f5⟩
  self := fun A i s Q E st h => let ⟨⟨_, he⟩, _⟩ := st; wpAny_pyIter_enum he h
section
variable {c : Ct} {fl : Fls} {e : Expr} {ma : Md} {fa : En → M D} {pos p tpos : Pos} {elts : List Expr} {kk : Nat}
theorem pi_pairs {X : Cx} {ta : TA} (hg : Gl X "enumerate") (hm : X.mg "enumerate" = none) (ha : PA X [e] ta) (hs : starEach [e] X.env = [(false, eval e X.env)]) :
    PI X (.Tuple elts kk tpos) (.Call (.Name "enumerate" p) [e] [] pos) fun σ H R => ta σ H fun vs H1 => ∃ b a xs, vs = [.ref a] ∧ SqE b X.K H1 a xs ∧ R (Itp b X.K a) H1 := by
  refine ⟨fun pins s σ H R I h => ?_⟩
  refine Call_ (ld_blt I hg hm boot_enumerate (PyProof.Rows.callWith_type1 (thn (ha.run pos pins s σ H _ I h) fun us s1 ⟨vs, H1, I1, r1, b, a, xs, ex, hq, q⟩ => ?_) hs rfl))
  subst ex
  cases r1 with
  | cons r rr =>
    cases rr
    have er : _ = Value.ref a := r
    subst er
    obtain ⟨its, rv, p'⟩ := sq_at I1 hq
    have la : a < s1.heap.objs.size := by
      cases b with
      | true => obtain ⟨o, ho, _⟩ := p'; exact Heap.lt_size ho
      | false => obtain ⟨o, ho, _⟩ := p'; exact Heap.lt_size ho
    have B : Begins (.ref a) (seqO b a) (fun h => SeqIs b h a its.toArray) := by
      cases b with
      | true => exact begins_list a its.toArray
      | false => exact begins_tuple a its.toArray
    refine enum1 B p' fun h' he hit hk => wpAny_pyIter_enum he ?_
    have I2 : Inv X pins σ H1 { s1 with heap := h' } := I1.kept (t' := s1.toks) hk
    have it0 : SeqIt b h' s1.heap.objs.size a 0 := by
      cases b with
      | true => exact ⟨_, hit, rfl, rfl⟩
      | false => exact ⟨_, hit, rfl, rfl⟩
    refine ⟨s1.heap.objs.size + 1, [s1.heap.objs.size + 1, s1.heap.objs.size], _, _, H1, rfl, I2, turn_pairs b a (s1.heap.objs.size + 1) s1.heap.objs.size, ⟨⟨.none, he⟩, it0, Nat.succ_ne_self _, Nat.ne_of_lt la, Nat.ne_of_lt (Nat.lt_succ_of_lt la)⟩, fun b hb => ?_, q⟩
    have hle : s1.heap.objs.size ≤ b := by
      have e' : b = s1.heap.objs.size + 1 ∨ b = s1.heap.objs.size := by simpa using hb
      rcases e' with z | z
      · rw [z]; exact Nat.le_add_right _ _
      · rw [z]; exact Nat.le_refl _
    exact I1.fpOk hle (I1.hok.fresh hle)
def pairsD : Nat → List D → List D
  | _, [] => []
  | n, d :: ds => .tup [.int n, d] :: pairsD (n + 1) ds
theorem pairsD_len : ∀ (n : Nat) (ds : List D), (pairsD n ds).length = ds.length
  | _, [] => rfl
  | n, _ :: ds => congrArg (· + 1) (pairsD_len (n + 1) ds)
theorem pairsD_get : ∀ (n : Nat) (ds : List D) (i : Nat) (d : D), (pairsD n ds)[i]? = some d → ∃ x, ds[i]? = some x ∧ d = .tup [.int ((n + i : Nat) : Int), x]
  | _, [], _, _, h => by simp [pairsD] at h
  | n, x :: ds, 0, d, h => by
    simp [pairsD] at h
    exact ⟨x, by simp, h.symm⟩
  | n, x :: ds, i + 1, d, h => by
    obtain ⟨y, h1, h2⟩ := pairsD_get (n + 1) ds i d (by simpa [pairsD] using h)
    exact ⟨y, by simpa using h1, by rw [h2, show n + 1 + i = n + (i + 1) from by omega]⟩
theorem walkD_pairs {P : Pm} {g : Gh} {b : Bool} {a : Addr} {vs : List V} {ds : List D} (h : SqE b P.K g.G a vs) (r : Rps P g.G g.am vs ds) : WalkD P g (Itp b P.K a) (pairsD 0 ds) := fun g' H' l k ka => by
  have hs : SqE b P.K H' a vs := by
    cases b with
    | true => exact SqL.mono l.gh (SqL.mono k h)
    | false => exact SqT.mono l.gh (SqT.mono k h)
  refine ⟨⟨vs, hs, by rw [pairsD_len, r.length]⟩, fun i d e => ?_⟩
  obtain ⟨x, ex, rfl⟩ := pairsD_get 0 ds i d e
  obtain ⟨v, e1, r1⟩ := r.get ex
  refine ⟨⟨vs, v, hs, e1⟩, fun y H'' ⟨T, x', q1, q2, q3, q4⟩ => ?_⟩
  have := q4 vs hs
  rw [e1] at this
  cases this
  subst q1 q3
  refine ⟨g'.frz T (.tup [.int (i : Nat), v]), rfl, l.newF q2, Ext.newF l q2, ?_⟩
  have z := rp_newT (P := P) l q2 (vs := [.int (i : Nat), v]) (ds := [.int ((0 + i : Nat) : Int), x]) (.cons (by rw [Nat.zero_add]; exact .int _) (.cons (r1.mono k ka) .nil))
  exact z
/-- enumerate(x) -/
theorem ji_pairs (ok : c.Ok) (hg : Gl c.X "enumerate") (hm : c.X.mg "enumerate" = none) (ha : JX c fl e .F fa) : JI c fl (.Tuple elts kk tpos) (.Call (.Name "enumerate" p) [e] [] pos) fun ρ => M.bind (fa ρ) fun x => M.bind (M.opt (asSeq x)) fun l => M.pure (pairsD 0 l) := by
  refine ⟨(pi_pairs hg hm (pa_cons ha.pe pa_nil (star_of ha.hd _ _)) (star_of ha.hd _ _)).imp fun σ H R ⟨g, ρ, S, r⟩ => ⟨g, ρ, S, r.bind.imp fun d g1 H1 l1 x1 h1 v q => ?_⟩⟩
  obtain ⟨ds, ed, h2⟩ := h1.bind.opt
  have fin := (h2.here l1).pure l1
  have rv : Rp c.P g1.G g1.am v d := q
  cases d with
  | lst ds' =>
    cases ed
    cases rv with
    | lst h r => exact ⟨true, _, _, rfl, SqL.of (l1.gh _ _ h), fin _ (ok.hK ▸ walkD_pairs (b := true) (SqL.of h) r)⟩
  | tup ds' =>
    cases ed
    cases rv with
    | tup h r => exact ⟨false, _, _, rfl, ok.hK ▸ SqT.mono l1.gh h, fin _ (ok.hK ▸ walkD_pairs (b := false) h r)⟩
  | scr ns =>
    cases ed
    cases rv with
    | scr h => exact ⟨true, _, _, rfl, ok.hK ▸ SqL.mono l1.gh h, fin _ (ok.hK ▸ walkD_pairs (b := true) h (rps_scr ns))⟩
  | _ => cases ed
end
end MW
end
section
set_option Elab.async false
set_option autoImplicit false
set_option maxRecDepth 100000
set_option maxHeartbeats 1000000
/-! MW25: sorted, by data; list(range). -/
namespace MW
open PySem PySem.Spec PyProof.Rows L2 PySem.W

def alikes (ds : List PyData) : Bool := ds.all fun d => ds.all fun e => PySem.W.alike d e
def isTupD : PyData → Bool
  | .tuple (_ :: _) => true
  | _ => false
def isOtherD : PyData → Bool
  | .none => false
  | .tuple _ => false
  | _ => true
def sortables (ds : List PyData) : Bool := ds.all isTupD || ds.all isOtherD
theorem alikes_ok {ds : List PyData} (h : alikes ds = true) : AllAlike ds := fun d hd e he => by
  have := List.all_eq_true.mp h d hd
  exact List.all_eq_true.mp this e he
theorem sortables_ok {ds : List PyData} (h : sortables ds = true) : Sortable ds := by
  rcases Bool.or_eq_true_iff.mp h with h | h
  · refine .inl fun d hd => ?_
    have := List.all_eq_true.mp h d hd
    unfold isTupD at this
    split at this
    · exact ⟨_, _, rfl⟩
    · cases this
  · refine .inr fun d hd => ?_
    have := List.all_eq_true.mp h d hd
    constructor
    · intro e
      rw [e] at this
      cases this
    · intro xs e
      rw [e] at this
      cases this
/-- the items of sorted(..) -/
def sortD (l : List D) : List D := l.mergeSort (dataLe false D.toPy)
def D.sortOk (l : List D) : Bool := D.plains l && alikes (D.toPys l) && sortables (D.toPys l) && l.all fun d => decide (d.toPy.depth ≤ 60)
def D.bSorted : List D → Option D
  | [.lst l] => if D.sortOk l then some (.lst (sortD l)) else none
  | [.tup l] => if D.sortOk l then some (.lst (sortD l)) else none
  | _ => none
theorem toPys_map : ∀ l : List D, D.toPys l = l.map D.toPy
  | [] => rfl
  | _ :: l => congrArg (_ :: ·) (toPys_map l)
theorem collect_seq {prog : Program} {w : World} {A : Around} {E : Value → Shared → Prop} {s : Shared} {b : Bool} {a : Addr} {its : List Value} {Q : List Value → Shared → Prop} (h : SeqIs b s.heap a its.toArray) (hz : its.length ≤ sizeLine)
    (hQ : ∀ h', (∀ c o, s.heap.get? c = some o → h'.get? c = some o) → Q its { s with heap := h' }) : wpAny (model prog w) A (collect (.ref a)) Q E s := by
  cases b with
  | true =>
    obtain ⟨o, ho, hc, n, hd⟩ := h
    exact wpAny_collect_seq a (.inl rfl) ho hc hd (fun h' k => by simpa using hQ h' k) (by simpa using hz)
  | false =>
    obtain ⟨o, ho, hc, n, hd⟩ := h
    exact wpAny_collect_seq a (.inr rfl) ho hc hd (fun h' k => by simpa using hQ h' k) (by simpa using hz)
theorem sorted_seq {prog : Program} {w : World} {A : Around} {E : Value → Shared → Prop} {s : Shared} {β : Type} {vs : List Value} {bs : List β} {enc : β → PyData} {R : Value → β → Prop} {b : Bool} {l : Addr} {Q : Value → Shared → Prop} (hl : SeqIs b s.heap l vs.toArray)
    (e : EachIs R vs bs) (er : EachIs (fun v b => ∃ as, Reads s.heap v (enc b) as ∧ ∀ c ∈ as, s.heap.get? c ≠ none) vs bs) (hal : AllAlike (bs.map enc)) (hk : Sortable (bs.map enc)) (hL : bs.length ≤ sizeLine) (hu : ∀ b, b ∈ bs → A.units + 3 + (enc b).depth < cLine)
    (h : ∀ a h' out, s.heap.get? a = none → (∀ c o, s.heap.get? c = some o → h'.get? c = some o) → out.length = bs.length → EachIs R out (bs.mergeSort (dataLe false enc)) → (∃ n, h'.get? a = some (seqObj "list" out.toArray n)) → Q (.ref a) { s with heap := h' }) :
    wpAny (model prog w) A (call (.builtin "sorted") [.ref l]) Q E s := by
  refine Calls.call_function_entry kind_sorted plain_sorted entry_sorted (args_sorted1 _) ?_
  unfold Builtin.«sorted»
  refine wpAny_bind (m := checkCount "sorted" 1 1 _) (wpAny_pure ?_)
  have hlen : vs.length ≤ sizeLine := by rw [e.length]; exact hL
  refine wpAny_bind (collect_seq hl hlen fun h1 k1 => ?_)
  refine wpAny_bind (wpAny_newList ?_ hlen)
  have free : h1.get? h1.objs.size = none := by
    cases q : h1.get? h1.objs.size with
    | none => rfl
    | some o => exact absurd (Heap.lt_size q) (Nat.lt_irrefl _)
  have hs : s.heap.get? h1.objs.size = none := by
    cases q : s.heap.get? h1.objs.size with
    | none => rfl
    | some o =>
      have := k1 _ _ q
      rw [free] at this
      cases this
  have k2 : ∀ c o, h1.get? c = some o → (h1.push (seqObj "list" vs.toArray 0)).get? c = some o := fun c o q => Heap.get?_push_of_some _ q
  have ho : (h1.push (seqObj "list" vs.toArray 0)).get? h1.objs.size = some (seqObj "list" vs.toArray 0) := Heap.get?_push_size _ rfl
  have er' : EachIs (fun v d => ∃ as, Reads (h1.push (seqObj "list" vs.toArray 0)) v (enc d) as ∧ h1.objs.size ∉ as) vs bs := er.mono fun v d ⟨as, r, q⟩ => ⟨as, PyProof.Rows.Reads.keeps (fun c o z => k2 c o (k1 c o z)) r, fun z => q _ z hs⟩
  have eu : A.in1.units = A.units + 1 := rfl
  have body : wpAny (model prog w) A.in1 (call (.builtin "list.sort") [.ref h1.objs.size]) (fun _ s' => Q (.ref h1.objs.size) s') E { s with heap := h1.push (seqObj "list" vs.toArray 0) } := by
    refine list_sort_data (R := R) (enc := enc) ho e er' hal hk hL (fun d hd => by have := hu d hd; rw [eu]; omega) (fun out ho' eo => ?_)
    obtain ⟨n, hn⟩ := sortedHeap_at (out := out.toArray) ho
    refine h h1.objs.size _ out hs (fun c o q => ?_) ho' eo ⟨n, hn⟩
    have q2 := k2 c o (k1 c o q)
    rw [sortedHeap_old (fun z => by rw [z, hs] at q; cases q) (Heap.lt_size q2)]
    exact q2
  exact wpAny_bind (wpAny_holding (wpAny_mono body (fun _ s' x => wpAny_pure ⟨_, rfl, x⟩) fun _ _ z => z))
/-- a new object somewhere, tracked -/
theorem inv_lay {X : Cx} {pins : List (Addr × Obj)} {σ : L2.St} {H : Hp} {s s' : Shared} {a : Addr} {o : HO} (I : Inv X pins σ H s) (kp : ∀ b u, s.heap.get? b = some u → s'.heap.get? b = some u) (os : s'.os = s.os) (ag : AllBare s'.gens) (hn : s.heap.get? a = none) (new : ObjOk X.prog X.w (upd H a o) s'.heap a o) :
    Inv X pins σ (upd H a o) s' ∧ H a = none := by
  have na : H a = none := I.hok.gone hn
  have J2 : Inv X pins σ H s' := I.call' (ch := []) os (Un.kept kp) (I.hok.kept kp) ag (by simp)
  refine ⟨inv_adopt I J2 hn na (fun z => ?_) (fun z => ?_) (fun x c e z => ?_) (fun p hp z => ?_) new, na⟩
  · obtain ⟨m, ⟨o, es, ep, ho, _⟩, _⟩ := I.loc
    rw [← z, hn] at ho
    cases ho
  · obtain ⟨_, o, ho, _⟩ := I.funs.mem z
    rw [hn] at ho
    cases ho
  · obtain ⟨v, o, ho, _⟩ := I.cell x c e
    rw [z, hn] at ho
    cases ho
  · have := (I.pin p hp).1
    rw [z, hn] at this
    cases this
theorem zip_fst {α β : Type} : ∀ {l : List α} {m : List β}, l.length = m.length → (l.zip m).map (·.1) = l
  | [], [], _ => rfl
  | a :: l, b :: m, h => by rw [List.zip_cons_cons, List.map_cons, zip_fst (Nat.succ.inj h)]
theorem zip_snd {α β : Type} : ∀ {l : List α} {m : List β}, l.length = m.length → (l.zip m).map (·.2) = m
  | [], [], _ => rfl
  | a :: l, b :: m, h => by rw [List.zip_cons_cons, List.map_cons, zip_snd (Nat.succ.inj h)]
section
variable {c : Ct}
def rSortM (c : Ct) : List V → Hp → VK → Prop := fun vs H Q => ∃ g Hb v ds b, vs = [v] ∧ Lay c.P g H ∧ (∃ a ws, v = .ref a ∧ SqE b c.X.K H a ws ∧ Rps c.P g.G g.am ws ds) ∧ D.sortOk ds = true ∧ Post c.P Hb .P g H v (if b then .lst ds else .tup ds) ∧
  ∀ p ws, H p = none → Rps c.P g.G g.am ws (sortD ds) → Q (.ref p) (upd H p (.lst ws))
theorem each_of {P : Pm} {g : Gh} {X : Cx} {pins : List (Addr × Obj)} {σ : L2.St} {H : Hp} {s : Shared} (I : Inv X pins σ H s) (hK : X.K = P.K) (k : Same g.G H) : ∀ {ws : List V} {ds : List D} {us : List Value}, Rps P g.G g.am ws ds → Vals ws us → D.plains ds = true →
    EachIs (fun (u : Value) (x : V × D) => RelV x.1 u) us (ws.zip ds) ∧ EachIs (fun (u : Value) (x : V × D) => ∃ as, Reads s.heap u x.2.toPy as ∧ ∀ c ∈ as, s.heap.get? c ≠ none) us (ws.zip ds)
  | _, _, _, .nil, .nil, _ => ⟨.nil, .nil⟩
  | _, _, _, .cons h r, .cons q qs, p => by
    have p' := p
    unfold D.plains at p'
    rw [Bool.and_eq_true] at p'
    obtain ⟨a1, a2⟩ := each_of I hK k r qs p'.2
    obtain ⟨as, rd, nz⟩ := Rp.reads I hK k _ _ _ h q (D.rd_of_plain _ p'.1)
    refine ⟨.cons q a1, .cons ⟨as, rd, fun c hc z => ?_⟩ a2⟩
    cases e : H c with
    | none => exact nz c hc e
    | some o => exact absurd e (by rw [I.hok.gone z]; simp)
theorem call_sortR (ok : c.Ok) : CallR c.X (.builtin "sorted") (rSortM c) := by
  intro pins s σ H xs us Q I r ⟨g, Hb, v, ds, b, e, l, ⟨a, ws, ev, hq, rp⟩, hs, _, q⟩
  subst e ev
  cases r with
  | cons rx rr =>
    cases rr
    have ex : _ = Value.ref a := rx
    subst ex
    obtain ⟨its, rv, hi⟩ := sq_at I hq
    unfold D.sortOk at hs
    simp only [Bool.and_eq_true, List.all_eq_true, decide_eq_true_eq] at hs
    obtain ⟨⟨⟨h1, h2⟩, h3⟩, h4⟩ := hs
    obtain ⟨e1, e2⟩ := each_of I ok.hK l.gh rp rv h1
    have hlen : ws.length = ds.length := rp.length
    have em : (ws.zip ds).map (fun x => x.2.toPy) = D.toPys ds := by
      rw [toPys_map]
      have := congrArg (List.map D.toPy) (zip_snd hlen)
      rw [List.map_map] at this
      exact this
    have hz : (ws.zip ds).length ≤ sizeLine := by
      rw [List.length_zip, ← hlen, Nat.min_self]
      cases b with
      | true => exact (I.list hq).choose_spec.2.2
      | false => exact (I.tuple hq).choose_spec.2.2
    refine sorted_seq (enc := fun x : V × D => x.2.toPy) (R := fun u x => RelV x.1 u) hi e1 e2 (by rw [em]; exact alikes_ok h2) (by rw [em]; exact sortables_ok h3) hz (fun x hx => ?_) fun p h' out hn kp ho eo hat => ?_
    · have hd : x.2.toPy.depth ≤ 60 := h4 _ (List.of_mem_zip hx).2
      have := ok.hu
      show c.X.A.units + 3 + x.2.toPy.depth < cLine
      omega
    · obtain ⟨n, hat⟩ := hat
      have eP : ((ws.zip ds).mergeSort (dataLe false fun x => x.2.toPy)).map (·.2) = sortD ds := by
        unfold sortD
        have := List.map_mergeSort (r := dataLe false fun x : V × D => x.2.toPy) (s := dataLe false D.toPy) (f := fun x : V × D => x.2) (l := ws.zip ds) (fun a _ b _ => rfl)
        rw [this, zip_snd hlen]
      have all : ∀ x ∈ ws.zip ds, Rp c.P g.G g.am x.1 x.2 := by
        intro x hx
        obtain ⟨i, hi⟩ := List.mem_iff_getElem?.mp hx
        obtain ⟨h5, h6⟩ := List.getElem?_zip_eq_some.mp hi
        obtain ⟨d, h7, h8⟩ := rp.get' h5
        rw [h6] at h7
        cases h7
        exact h8
      have rps : ∀ L : List (V × D), (∀ x ∈ L, Rp c.P g.G g.am x.1 x.2) → Rps c.P g.G g.am (L.map (·.1)) (L.map (·.2)) := fun L => by
        induction L with
        | nil => intro _; exact .nil
        | cons y L ih => intro hL; exact .cons (hL y List.mem_cons_self) (ih fun x hx => hL x (List.mem_cons_of_mem _ hx))
      have rout := rps _ fun x hx => all x ((List.mergeSort_perm (ws.zip ds) (dataLe false fun x => x.2.toPy)).mem_iff.mp hx)
      rw [eP] at rout
      have rv2 : Vals (((ws.zip ds).mergeSort (dataLe false fun x => x.2.toPy)).map (·.1)) out := by
        have conv : ∀ {us : List Value} {L : List (V × D)}, EachIs (fun u (x : V × D) => RelV x.1 u) us L → Vals (L.map (·.1)) us := fun {us L} h => by
          induction h with
          | nil => exact .nil
          | cons r _ ih => exact .cons r ih
        exact conv eo
      have new : ObjOk c.X.prog c.X.w (upd H p (.lst (((ws.zip ds).mergeSort (dataLe false fun x => x.2.toPy)).map (·.1)))) h' p (.lst (((ws.zip ds).mergeSort (dataLe false fun x => x.2.toPy)).map (·.1))) :=
        ⟨by rw [rv2.length, ho]; exact hz, out, n, rv2, hat⟩
      obtain ⟨J, na⟩ := inv_lay (s' := { s with heap := h' }) I kp rfl I.bare hn new
      exact ⟨.ref p, _, J, rfl, q p _ na rout⟩
end
end MW
end
section
set_option Elab.async false
set_option autoImplicit false
set_option maxRecDepth 100000
set_option maxHeartbeats 2000000
/-! MW26: reversed slices of tuples; list(range). -/
namespace MW
open PySem PySem.Spec PyProof.Rows L2 HT
section
variable {prog : Program} {w : World} {A : Around} {E : Value → Shared → Prop} {s : Shared}
theorem rev_adjust (n : Nat) : Builtin.Slice.sliceAdjust none none (-1) (n : Int) = ((n : Int) - 1, -1) := by
  unfold Builtin.Slice.sliceAdjust
  simp
theorem rev_places (n : Nat) : Builtin.Slice.slicePlaces ((n : Int) - 1) (-1) (-1) = n := by
  unfold Builtin.Slice.slicePlaces
  simp
  omega
theorem rev_applied {sl : Addr} {vs : Value} {n : Nat} {Q : Int × Int × Nat → Shared → Prop} (hs : s.heap.IsSliceOf sl .none .none vs) (ps : IsPart vs (some (-1)))
    (h : Q ((n : Int) - 1, -1, n) s) : wpAny (model prog w) A (Builtin.Slice.sliceApplied (.ref sl) (pure (n : Int))) Q E s := by
  obtain ⟨os, hos, hcs, hds⟩ := id hs
  unfold Builtin.Slice.sliceApplied Builtin.Slice.sliceFields
  refine wpAny_bind (wpAny_bind (wpAny_field hos hds (x := .none) rfl (wpAny_bind (wpAny_field hos hds (x := .none) rfl (wpAny_bind (wpAny_field hos hds (x := vs) rfl (wpAny_pure ?_)))))))
  refine wpAny_bind (slicePart_ ps ?_)
  show wpAny _ _ (if ((-1 : Int) == 0) = true then _ else _) _ _ s
  rw [if_neg (by decide)]
  refine wpAny_bind (slicePart_none (wpAny_bind (slicePart_none (wpAny_bind (wpAny_pure ?_)))))
  show wpAny _ _ (match Builtin.Slice.sliceAdjust none none (-1) (n : Int) with | (lo, hi) => pure (lo, (-1 : Int), Builtin.Slice.slicePlaces lo hi (-1))) _ _ s
  rw [rev_adjust]
  show wpAny _ _ (pure ((n : Int) - 1, (-1 : Int), Builtin.Slice.slicePlaces ((n : Int) - 1) (-1) (-1))) _ _ s
  rw [rev_places]
  exact wpAny_pure h
theorem fm_congr {α β : Type} {f g : α → Option β} : ∀ {l : List α}, (∀ x ∈ l, f x = g x) → l.filterMap f = l.filterMap g
  | [], _ => rfl
  | x :: l, h => by
    rw [List.filterMap_cons, List.filterMap_cons, h x List.mem_cons_self, fm_congr fun y hy => h y (List.mem_cons_of_mem _ hy)]
theorem rev_pick (xs : Array Value) : ((List.range xs.size).filterMap fun (m : Nat) => xs[((xs.size : Int) - 1 + (m : Int) * (-1)).toNat]?).toArray = xs.toList.reverse.toArray := by
  congr 1
  have e : ((List.range xs.size).filterMap fun (m : Nat) => xs[((xs.size : Int) - 1 + (m : Int) * (-1)).toNat]?) = ((List.range xs.size).map fun k => xs.size - 1 - k).filterMap (xs[·]?) := by
    rw [List.filterMap_map]
    refine fm_congr fun k hk => ?_
    have := List.mem_range.mp hk
    show xs[_]? = xs[_]?
    congr 1
    show _ = xs.size - 1 - k
    omega
  rw [e, PySem.W.krv_range, List.filterMap_reverse, PySem.W.krv_all]
theorem getItem_tuple_rev {t sl : Addr} {items : Array Value} {vs : Value} {Q : Value → Shared → Prop} (ht : IsTup s.heap t items) (hs : s.heap.IsSliceOf sl .none .none vs) (ps : IsPart vs (some (-1)))
    (h : Q (.ref s.heap.objs.size) { s with heap := s.heap.push { cls := .type "tuple", data := .seq items.toList.reverse.toArray } })
    (hsz : items.size ≤ sizeLine) : wpAny (model prog w) A (getItem (.ref t) (.ref sl)) Q E s := by
  have htake : sizeOk (.seq items.toList.reverse.toArray) := by
    show items.toList.reverse.toArray.size ≤ sizeLine
    rw [List.size_toArray, List.length_reverse, Array.length_toList]
    exact hsz
  obtain ⟨os, hos, hcs, hds⟩ := id hs
  have hTs : s.TypeIs (.ref sl) "slice" := ⟨os, hos, hcs⟩
  unfold getItem
  try with_reducible refine wpAny_holding ?_
  first | refine wpAny_bind (wpAny_pure ?_) | skip
  refine wpAny_bind (wpAny_sequenceKey ht.typeIs (by decide) ?_)
  refine wpAny_bind (wpAny_callSpecial?_slot (name := Str.ofString "__getitem__") ht.typeIs PyProof.Rows.slot_tuple_getitem
    (wpAny_call_entry PyProof.Rows.slot_tuple_getitem ht.typeIs entry_tuple_getitem ?_ (args_tuple_getitem _ _)))
  show wpAny _ _ (Builtin.Tuple.tupleItemsOf (.ref t) >>= _) _ _ s
  refine wpAny_bind (tupleItemsOf_ ht ?_)
  refine wpAny_bind (wpAny_typeOf hTs ?_)
  rw [if_pos (by decide)]
  refine wpAny_bind (rev_applied hs ps ?_)
  have hno : ¬ ((((items.size : Int) - 1) == 0 && (-1 : Int) == 1 && items.size == items.size) = true) := by simp
  show wpAny _ _ (if (((items.size : Int) - 1) == 0 && (-1 : Int) == 1 && items.size == items.size) = true then _ else _) _ _ s
  rw [if_neg hno, rev_pick]
  first
    | exact wpAny_bind (m := Builtin.Tuple.tupleExact _) (wpAny_newObj_type (wpAny_pure ⟨_, rfl, wpAny_pure h⟩) htake)
    | exact wpAny_bind (m := Builtin.Tuple.tupleExact _) (wpAny_newObj_type (wpAny_bind (wpAny_pure (wpAny_pure ⟨_, rfl, wpAny_pure h⟩))) htake)
    | exact wpAny_bind (wpAny_bind (m := Builtin.Tuple.tupleExact _) (wpAny_newObj_type (wpAny_pure (wpAny_pure ⟨_, rfl, wpAny_pure h⟩)) htake))
    | exact wpAny_bind (wpAny_bind (m := Builtin.Tuple.tupleExact _) (wpAny_newObj_type (wpAny_pure ⟨_, rfl, wpAny_pure h⟩) htake))
end
section
variable {c : Ct} {fl : Fls} {e : Expr} {ma : Md} {fa : En → M D} {p p1 p2 p3 pos : Pos} {k : Nat}
theorem pe_revA {X : Cx} {te : TE} (he : PE X e te) : PE X (.Subscript e (.Slice none none (some (.UnaryOp .USub (.Constant (.int 1) k p1) p2)) p3) pos) fun σ H Q => te σ H fun x H1 => ∃ b a xs, x = .ref a ∧ SqE b X.K H1 a xs ∧ ∀ p, H1 p = none → Q (.ref p) (upd H1 p (if b then .lst xs.reverse else .tup xs.reverse)) := by
  refine ⟨fun pins s σ H Q I h => ?_⟩
  refine Subscript_ (thn (he.run pins s σ H _ I h) fun v s1 ⟨x, H1, I1, r1, b, a, xs, ex, hx, q⟩ => ?_)
  subst ex
  have ev : v = Value.ref a := r1
  subst ev
  have hst : PO X (some (.UnaryOp .USub (.Constant (.int 1) k p1) p2)) (tPart (tUn (rU fun i => .int (-i)) (tC (.int 1)))) := po_some (pe_un un_neg pe_int)
  refine wpAny_Slice (thn (po_none.run pins s1 σ H1 (fun o H2 => o = none ∧ H2 = H1) I1 ⟨rfl, rfl⟩) fun vl s2 ⟨l, H2, I2, pl, el, e2⟩ => ?_)
  subst el e2
  refine thn (po_none.run pins s2 σ H2 (fun o H3 => o = none ∧ H3 = H2) I2 ⟨rfl, rfl⟩) fun vu s3 ⟨u, H3, I3, pu, eu, e3⟩ => ?_
  subst eu e3
  refine thn (hst.run pins s3 σ H3 (fun o H4 => o = some (-1) ∧ H4 = H3) I3 ⟨1, rfl, -1, rfl, rfl, rfl⟩) fun vs s4 ⟨o, H4, I4, ps, eo, e4⟩ => ?_
  subst eo e4
  cases pl
  cases pu
  have I5 : Inv X pins σ H4 { s4 with heap := s4.heap.push { cls := .type "slice", data := .fields #[.none, .none, vs] } } := I4.kept (t' := s4.toks) fun b ob q => Heap.get?_push_of_some _ q
  cases b with
  | true =>
    obtain ⟨its, r, ht, hz⟩ := I5.list hx
    have hlen := r.length
    show wpAny (model X.prog X.w) X.A (subscriptTail e (.Slice none none (some (.UnaryOp .USub (.Constant (.int 1) k p1) p2)) p3) (.ref a) (.ref s4.heap.objs.size)) (EP X pins σ Q) X.xe _
    refine tail_any (ops := [.ref a, .ref s4.heap.objs.size]) ht.isList.typeIs (PySem.slot_list_getitem.lookup) ?_ (by with_unfolding_all rfl)
    refine wpAny_getItem_list_slice ht.isList (Heap.IsSliceOf.new _ .none .none vs) .none .none ps (by decide) ?_ (by rw [List.size_toArray]; omega)
    rw [PySem.W.krv_pick]
    refine ⟨.ref _, _, I5.laid (t' := s4.toks) (o := .lst xs.reverse) (fun b ob q => Heap.get?_push_of_some _ q) (Nat.le_refl _) ?_, rfl, q _ (I5.hok.fresh (Nat.le_refl _))⟩
    exact ⟨by rw [List.length_reverse]; exact hz, _, 0, r.reverse, Heap.get?_push_size _ rfl⟩
  | false =>
    obtain ⟨its, r, ht, hz⟩ := I5.tuple hx
    have hlen := r.length
    show wpAny (model X.prog X.w) X.A (subscriptTail e (.Slice none none (some (.UnaryOp .USub (.Constant (.int 1) k p1) p2)) p3) (.ref a) (.ref s4.heap.objs.size)) (EP X pins σ Q) X.xe _
    refine tail_any (ops := [.ref a, .ref s4.heap.objs.size]) ht.typeIs PyProof.Rows.slot_tuple_getitem.lookup ?_ (by with_unfolding_all rfl)
    refine getItem_tuple_rev ht (Heap.IsSliceOf.new _ .none .none vs) ps ?_ (by rw [List.size_toArray]; omega)
    refine ⟨.ref _, _, I5.laid (t' := s4.toks) (o := .tup xs.reverse) (fun b ob q => Heap.get?_push_of_some _ q) (Nat.le_refl _) ?_, rfl, q _ (I5.hok.fresh (Nat.le_refl _))⟩
    exact ⟨by rw [List.length_reverse]; exact hz, _, r.reverse, IsTup.new _ _⟩
/-- x[::-1] -/
theorem jx_rev (ok : c.Ok) (ha : JX c fl e ma fa) : JX c fl (.Subscript e (.Slice none none (some (.UnaryOp .USub (.Constant (.int 1) k p1) p2)) p3) pos) .O fun ρ => M.bind (fa ρ) fun x => M.opt (D.rev x) := by
  refine ⟨(pe_revA ha.pe).imp fun σ H Q ⟨g, ρ, S, r⟩ => ⟨g, ρ, S, r.bind.imp fun d1 g1 H1 l1 x1 h1 v q => ?_⟩, rfl⟩
  obtain ⟨d, ed, h2⟩ := h1.opt
  have fin : Fin c g1 H1 d Q := fun v' g' H' ew l' x' p => h2 g' H' ew l' x' v' (p.back x1)
  have p1 : Post c.P H .P g1 H1 v d1 := q.toP
  cases d1 with
  | lst ds =>
    cases ed
    obtain ⟨pa, vs, rfl, hs, _, r'⟩ := p1.lst l1
    exact ⟨true, pa, vs, rfl, SqL.of hs, fin.newL rfl l1 r'.reverse⟩
  | tup ds =>
    cases ed
    obtain ⟨pa, vs, rfl, hs, r'⟩ := p1.tup l1
    exact ⟨false, pa, vs, rfl, ok.hK ▸ hs, fin.newT rfl l1 r'.reverse⟩
  | _ => cases ed
/-- sorted -/
theorem call_sortedM (ok : c.Ok) : CallM c (.builtin "sorted") D.bSorted := by
  refine ⟨_, call_sortR ok, fun g H vs ds d Q l p e fin => ?_⟩
  cases p with
  | nil => cases e
  | @cons v vs d1 ds p1 ps =>
    cases ps with
    | cons _ _ => cases d1 <;> cases e
    | nil =>
      cases d1 with
      | lst xs =>
        have e' : (if D.sortOk xs then some (D.lst (sortD xs)) else none) = some d := e
        split at e'
        · rename_i hs
          cases e'
          obtain ⟨pa, ws, rfl, h1, _, r'⟩ := p1.lst l
          exact ⟨g, H, _, xs, true, rfl, l, ⟨pa, ws, rfl, SqL.of h1, r'⟩, hs, p1, fun p ws' np rp => fin.newL rfl l rp p np⟩
        · cases e'
      | tup xs =>
        have e' : (if D.sortOk xs then some (D.lst (sortD xs)) else none) = some d := e
        split at e'
        · rename_i hs
          cases e'
          obtain ⟨pa, ws, rfl, h1, r'⟩ := p1.tup l
          exact ⟨g, H, _, xs, false, rfl, l, ⟨pa, ws, rfl, (show SqE false c.X.K H pa ws from ok.hK ▸ h1), r'⟩, hs, p1, fun p ws' np rp => fin.newL rfl l rp p np⟩
        · cases e'
      | _ => cases e
/-- list(range(n)), list(range(i, j)) -/
theorem rg_rel {P : Pm} {G : Hp} {am : Nat → Option Addr} (lo : Int) : ∀ n : Nat, Rps P G am ((List.range n).map fun i => V.int (lo + (i : Nat))) (rangeD lo n) := by
  intro n
  unfold rangeD
  generalize List.range n = l
  induction l with
  | nil => exact .nil
  | cons i l ih => exact .cons (.int _) ih
end
section
variable {c : Ct} {fl : Fls} {a b : Expr} {fs : En → M (List D)} {p p2 pos pos2 : Pos}
def lrg : List D → Option D
  | [.int n] => if small62 n && decide (n ≤ 2 ^ 24) then some (.lst (rangeD 0 n.toNat)) else none
  | [.int i, .int j] => if small62 i && small62 j && decide (j - i ≤ 2 ^ 24) then some (.lst (rangeD i (j - i).toNat)) else none
  | _ => none
theorem jx_lrg1 (ok : c.Ok) (hl : Gl c.X "list") (hlm : c.X.mg "list" = none) (hg : Gl c.X "range") (hm : c.X.mg "range" = none) {ma : Md} {fa : En → M D} (ha : JX c fl a ma fa) :
    JX c fl (.Call (.Name "list" p) [.Call (.Name "range" p2) [a] [] pos2] [] pos) .O fun ρ => M.bind (fa ρ) fun x => M.opt (lrg [x]) := by
  refine ⟨(pe_listRg ok.calm hl hlm (prg_1 hg hm ha.pe (star_of ha.hd _ _)) (star_of rfl _ _)).imp fun σ H Q ⟨g, ρ, S, r⟩ => ⟨g, ρ, S, r.bind.imp fun d g1 H1 l1 x1 h1 v q => ?_⟩, rfl⟩
  obtain ⟨d', ed, h2⟩ := h1.opt
  have fin : Fin c g1 H1 d' Q := fun v' g' H' ew l' x' p => h2 g' H' ew l' x' v' (p.back x1)
  cases d with
  | int n =>
    have e' : (if small62 n && decide (n ≤ 2 ^ 24) then some (D.lst (rangeD 0 n.toNat)) else none) = some d' := ed
    split at e'
    · rename_i hz
      rw [Bool.and_eq_true, decide_eq_true_eq] at hz
      cases e'
      obtain ⟨z1, z2⟩ := small62_ok hz.1
      have z3 := hz.2
      refine ⟨n, (q.toP : Post c.P H .P g1 H1 v (.int n)).int, ⟨by omega, by omega, z1, z2, by omega⟩, ?_⟩
      have e : (n - 0).toNat = n.toNat := by rw [Int.sub_zero]
      unfold rgV
      rw [e]
      exact fin.newL rfl l1 (rg_rel 0 n.toNat)
    · cases e'
  | _ => cases ed
end
section
variable {c : Ct} {fl : Fls} {pos p : Pos}
/-- f() -/
theorem jx_call0 (ok : c.Ok) {x : Str} {m : List D → M D} (F : FnOf c x m) (hg : Gl c.X x) : JX c fl (.Call (.Name x p) [] [] pos) .F fun _ => m [] := by
  obtain ⟨f, fd, ps, k, G, hr, hm, hk, hb⟩ := F.ex
  refine ⟨⟨fun pins s σ H Q I ⟨g, ρ, S, r⟩ => ?_⟩, rfl⟩
  refine wpAny_Call_Name_kw (ld_glob I hg hm (PySem.W.callWith_K0 I.kIn hk ?_) F.dbg)
  have hsp : spM c.P m [] H Q fun cls d H' => c.W cls d σ H' := ⟨g, [], S.lay, .nil, r⟩
  have hl : (([] : List Value) ++ []).length = ps.length := G.len _ _ _ _ hsp
  have hbt := hb s [] I.kIn hl
  rw [List.append_nil] at hbt
  refine wpAny_call (codeAny_mono (G.run c.X.A c.X.stack s H ⟨[], []⟩ [] [] Q _ hr ok.hgd I.env0 hbt .nil hsp) fun res s2 hq => ?_)
  cases res with
  | error u => exact ok.tk u s2 (XE.of_call I (fun _ _ _ z => z) hq)
  | ok fw =>
    cases fw with
    | ret u => exact I.after hq
    | next => exact hq.elim
    | brk => exact hq.elim
    | cont => exact hq.elim
end
end MW
end
section
set_option Elab.async false
set_option autoImplicit false
set_option maxRecDepth 100000
/-! MW28: the draw, by data: its dict (cell 1), its list (cell 2). -/
namespace MW
open PySem PySem.Spec PyProof.Rows L2
/-- the draw's dict and list, in the heap -/
theorem draw_at {P : Pm} {g : Gh} {H : Hp} (l : Lay P g H) {d : Draw} (h : g.w.draw = some d) : ∃ a q, a ≠ q ∧ g.am 1 = some a ∧ g.am 2 = some q ∧ g.R a = some (.dK [(Sum.inr "mixed", .int d.mixed), (Sum.inr "great", .ref q), (Sum.inr "turn", .int d.turn)]) ∧ g.R q = some (.lst (d.great.map V.int)) := by
  have w := l.wr
  unfold WRel at w
  rw [h] at w
  exact w
theorem rp_cell {P : Pm} {G : Hp} {am : Nat → Option Addr} {v : V} {n : Nat} (h : Rp P G am v (.cell n)) : ∃ a, v = .ref a ∧ am n = some a := by
  cases h with
  | cell e => exact ⟨_, rfl, e⟩
/-- the cells' objects are changed, and the world with them -/
theorem Ext.cells {P : Pm} {g : Gh} {H : Hp} (l : Lay P g H) {a : Addr} {u u' : HO} (h : g.R a = some u) (w : Wd) : Ext g H { g with R := upd g.R a u', w := w } (upd H a u') where
  keep := fun b o e n => by
    have q : b ≠ a := fun z => by rw [z, h] at n; cases n
    rw [upd_ne q]; exact e
  gg := fun _ _ e => e
  gn := fun _ _ e => .inl e
  rn := fun b o e => by
    by_cases q : b = a
    · rw [q]; exact .inl (by rw [h]; simp)
    · have e' : upd g.R a u' b = some o := e
      rw [upd_ne q] at e'
      exact .inl (by rw [e']; simp)
  am := fun _ _ e => e
  th := fun b o e => by
    by_cases q : b = a
    · rw [q, upd_same]; simp
    · rw [upd_ne q, e]; simp
theorem Lay.cells {P : Pm} {g : Gh} {H : Hp} (l : Lay P g H) {a : Addr} {u u' : HO} (h : g.R a = some u) {w : Wd} (wr : WRel P.K w g.am (upd g.R a u')) : Lay P { g with R := upd g.R a u', w := w } (upd H a u') where
  gh := fun b o e => by
    have q : b ≠ a := fun z => by
      have := l.dj b o e
      rw [z, h] at this
      cases this
    rw [upd_ne q]; exact l.gh b o e
  rh := fun b o e => by
    by_cases q : b = a
    · subst q
      have e' : upd g.R b u' b = some o := e
      rw [upd_same] at e' ⊢
      exact e'
    · have e' : upd g.R a u' b = some o := e
      rw [upd_ne q] at e' ⊢
      exact l.rh b o e'
  dj := fun b o e => by
    have q : b ≠ a := fun z => by
      have := l.dj b o e
      rw [z, h] at this
      cases this
    show upd g.R a u' b = none
    rw [upd_ne q]; exact l.dj b o e
  wr := wr
/-! ### what the draw's reads and stores are, by data -/
/-- d['mixed'], d['turn'], d['great'] -/
def drawGet (k : Str) : D → M D := fun x w => match x, w.draw with
  | .cell 1, some d => if k = "mixed" then .ok (.int d.mixed) w else if k = "turn" then .ok (.int d.turn) w else if k = "great" then .ok (.cell 2) w else .bad
  | _, _ => .bad
section
variable {c : Ct} {fl : Fls} {a : Expr} {ma : Md} {fa : En → M D} {pos p2 : Pos} {k : Str} {j : Nat}
theorem jx_dget (ok : c.Ok) (ha : JX c fl a ma fa) : JX c fl (.Subscript a (.Constant (.str k) j p2) pos) .F fun ρ => M.bind (fa ρ) (drawGet k) := by
  have hu : c.X.A.units + 1 < cLine := by have := ok.hu; omega
  refine ⟨(pe_dget hu ha.pe pe_str (fun _ _ => rfl)).imp fun σ H Q ⟨g, ρ, S, r⟩ => ⟨g, ρ, S, (Res.bind r).imp fun d1 g1 H1 l1 x1 h1 v q => ?_⟩, rfl⟩
  unfold drawGet at h1
  split at h1
  · rename_i d hd
    obtain ⟨ad, qd, hne, h2, h3, h4, h5⟩ := draw_at l1 hd
    obtain ⟨av, rfl, h6⟩ := rp_cell (q.toP.nl (fun l z => nomatch z))
    rw [h2] at h6
    cases h6
    have hH := l1.rh _ _ h4
    split at h1
    · rename_i e
      subst e
      exact ⟨ad, .int d.mixed, rfl, DGet.k (k := Sum.inr "mixed") hH, h1.here l1 _ (Rp.int _)⟩
    · split at h1
      · rename_i e
        subst e
        exact ⟨ad, .int d.turn, rfl, DGet.k (k := Sum.inr "turn") hH, h1.here l1 _ (Rp.int _)⟩
      · split at h1
        · rename_i e
          subst e
          exact ⟨ad, .ref qd, rfl, DGet.k (k := Sum.inr "great") hH, h1.here l1 _ (Rp.cell h3)⟩
        · exact h1.elim
  · exact h1.elim
/-- len, an item, whether it is not empty: of the draw's list -/
def greatLen : D → M D := fun x w => match x, w.draw with
  | .cell 2, some d => .ok (.int d.great.length) w
  | _, _ => .bad
theorem great_at {P : Pm} {g : Gh} {H : Hp} (l : Lay P g H) {d : Draw} (hd : g.w.draw = some d) {v : V} (h : Rp P g.G g.am v (.cell 2)) : ∃ q, v = .ref q ∧ g.R q = some (.lst (d.great.map V.int)) ∧ H q = some (.lst (d.great.map V.int)) := by
  obtain ⟨ad, qd, hne, h2, h3, h4, h5⟩ := draw_at l hd
  obtain ⟨av, rfl, h6⟩ := rp_cell h
  rw [h3] at h6
  cases h6
  exact ⟨_, rfl, h5, l.rh _ _ h5⟩
theorem jx_glen {p : Pos} (ok : c.Ok) (hg : Gl c.X "len") (hm : c.X.mg "len" = none) (ha : JX c fl a ma fa) : JX c fl (.Call (.Name "len" p) [a] [] pos) .F fun ρ => M.bind (fa ρ) greatLen := by
  refine ⟨(pe_callB call_len hg hm (by decide +kernel) (pa_cons ha.pe pa_nil (star_of ha.hd _ _)) (he := star_of ha.hd _ _)).imp fun σ H Q ⟨g, ρ, S, r⟩ => ⟨g, ρ, S, (Res.bind r).imp fun d1 g1 H1 l1 x1 h1 v q => ?_⟩, rfl⟩
  unfold greatLen at h1
  split at h1
  · rename_i d hd
    obtain ⟨b, rfl, _, hH⟩ := great_at l1 hd (q.toP.nl (fun l z => nomatch z))
    exact ⟨.ref b, d.great.length, rfl, .inl ⟨_, SqL.of hH, by rw [List.length_map]⟩, h1.here l1 _ (Rp.int _)⟩
  · exact h1.elim
def greatIx : D → D → M D := fun x y w => match x, y, w.draw with
  | .cell 2, .int i, some d => (match atI d.great i with | some n => .ok (.int n) w | none => .bad)
  | _, _, _ => .bad
theorem atI_map {α β : Type} (f : α → β) {l : List α} {i : Int} {x : α} (h : atI l i = some x) : atI (l.map f) i = some (f x) := by
  unfold atI at h ⊢
  rw [List.length_map]
  obtain ⟨n, h1, h2⟩ := Option.bind_eq_some_iff.mp h
  rw [h1]
  show (l.map f)[n]? = some (f x)
  rw [List.getElem?_map, h2]
  rfl
theorem jx_gix {b : Expr} {mb : Md} {fb : En → M D} (ok : c.Ok) (ha : JX c fl a ma fa) (hb : JX c fl b mb fb) : JX c fl (.Subscript a b pos) .F fun ρ => M.bind (fa ρ) fun x => M.bind (fb ρ) fun y => greatIx x y := by
  refine ⟨(pe_ix ix_seq ha.pe hb.pe (ix_of hb.hd)).imp fun σ H Q ⟨g, ρ, S, r⟩ => two_then S r fun x y dx dy g2 H2 S2 x2 px py h2 => ?_, rfl⟩
  unfold greatIx at h2
  split at h2
  · rename_i i d hd
    split at h2
    · rename_i n hn
      obtain ⟨q, rfl, _, hH⟩ := great_at S2.lay hd (px.nl (fun l z => nomatch z))
      exact .inl ⟨q, _, i, .int n, rfl, py.int, SqL.of hH, atI_map V.int hn, h2.here S2.lay _ (Rp.int _)⟩
    · exact h2.elim
  · exact h2.elim
/-- xs != [], two lists of which the second is empty -/
theorem op_ne0 (ok : c.Ok) : OpR c.X (compareOp .NotEq) fun x y H Q => ∃ (a b : Addr) (vs : List V), x = .ref a ∧ y = .ref b ∧ H a = some (.lst vs) ∧ H b = some (.lst []) ∧ Q (.bl !vs.isEmpty) H := by
  intro pins s σ H x y v u Q I rx ry ⟨a, b, vs, ex, ey, ha, hb, q⟩
  subst ex ey
  have hu := ok.hu
  have ev : v = Value.ref a := rx
  have eu : u = Value.ref b := ry
  subst ev eu
  obtain ⟨its, rv, ⟨o, n, ho, hc, _, hd⟩, _⟩ := I.list (SqL.of ha)
  obtain ⟨its', rv', ⟨o', n', ho', hc', _, hd'⟩, _⟩ := I.list (SqL.of hb)
  rw [vals_nil rv'] at hd'
  have hl : s.heap.IsList a its.toArray := ⟨o, ho, hc, n, hd⟩
  have hl' : s.heap.IsList b [].toArray := ⟨o', ho', hc', n', hd'⟩
  have hlen := rv.length
  cases vs with
  | nil =>
    have ei : its.toArray.size = ([] : List Value).toArray.size := by simpa using hlen.symm
    refine SeqAt.RcNeAt.lists (e := fun _ => true) hl hl' ei (by omega) (fun j _ h2 => absurd h2 (by simp)) c.X.prog c.X.w c.X.xe _ ⟨.bl _, H, I, ?_, q⟩
    show Value.bool _ = Value.bool _
    rw [ei]; rfl
  | cons w ws =>
    have ei : (its.toArray.size != ([] : List Value).toArray.size) = true := by
      have : its.length = ws.length + 1 := by simpa using hlen.symm
      simp [this]
    exact SeqAt.RcNeAt.lists_lengths hl hl' ei (by omega) c.X.prog c.X.w c.X.xe _ ⟨.bl _, H, I, rfl, q⟩
def greatNe : D → M Bool := fun x w => match x, w.draw with
  | .cell 2, some d => .ok (!d.great.isEmpty) w
  | _, _ => .bad
theorem jt_gne {p : Pos} (ok : c.Ok) (ha : JX c fl a ma fa) : JT c fl (.Compare a [.NotEq] [.List [] p] pos) fun ρ => M.bind (fa ρ) greatNe := by
  refine ⟨(pt_cmpR (op_ne0 ok) ha.pe (pe_lst (pos := p) pa_nil) (mark_of rfl _)).imp fun σ H Q ⟨g, ρ, S, r⟩ => ⟨g, ρ, S, (Res.bind r).imp fun d1 g1 H1 l1 x1 h1 v q => ?_⟩⟩
  unfold greatNe at h1
  split at h1
  · rename_i d hd
    obtain ⟨b, rfl, _, hH⟩ := great_at l1 hd (q.toP.nl (fun l z => nomatch z))
    refine ⟨Nat.zero_le _, fun n hn => ?_⟩
    have ne : b ≠ n := fun z => by rw [z, hn] at hH; cases hH
    refine ⟨b, n, _, rfl, rfl, (upd_ne ne).trans hH, upd_same, _, rfl, ?_⟩
    have h2 : Q (!d.great.isEmpty) (upd H1 n (.lst [])) := h1 g1 _ rfl (l1.new hn) (Ext.new hn)
    rw [List.isEmpty_map]
    exact h2
  · exact h1.elim
end
/-! ### the draw is made -/
/-- {'mixed': .., 'great': .., 'turn': ..} -/
def drawMk : D → D → D → M D := fun x y z w => match x, y, z, w.draw with
  | .int m, .lst l, .int t, none => (match D.toInts l with
    | some ns => .ok (.cell 1) { w with draw := some ⟨m, ns, t⟩ }
    | none => .bad)
  | _, _, _, _ => .bad
theorem mkdraw_lay {P : Pm} {g : Gh} {H H2 : Hp} {p l : Addr} {m t : Int} {ns : List Int} {vs : List V} {g2 : Gh} (l2 : Lay P g2 H2) (x2 : Ext g H g2 H2) (hd : g2.w.draw = none) (np : H p = none) (nl : H l = none) (hp : H2 p = some (.dK [])) (pG : g2.G p = none) (pR : g2.R p = none)
    (hl : H2 l = some (.lst vs)) (lG : g2.G l = none) (lR : g2.R l = none) (ev : vs = ns.map V.int) :
    ∃ g3 : Gh, g3.w = { g2.w with draw := some ⟨m, ns, t⟩ } ∧ g3.am 1 = some p ∧ Lay P g3 (upd H2 p (.dK [(Sum.inr "mixed", .int m), (Sum.inr "great", .ref l), (Sum.inr "turn", .int t)])) ∧ Ext g H g3 (upd H2 p (.dK [(Sum.inr "mixed", .int m), (Sum.inr "great", .ref l), (Sum.inr "turn", .int t)])) ∧ g3.G = g2.G := by
  have ne : p ≠ l := fun z => by rw [z, hl] at hp; cases hp
  have wr := l2.wr
  unfold WRel at wr
  rw [hd] at wr
  obtain ⟨a1, a2⟩ := wr
  refine ⟨⟨g2.G, upd (upd g2.R p (.dK [(Sum.inr "mixed", .int m), (Sum.inr "great", .ref l), (Sum.inr "turn", .int t)])) l (.lst vs), fun n => if n = 1 then some p else if n = 2 then some l else g2.am n, { g2.w with draw := some ⟨m, ns, t⟩ }⟩, rfl, rfl, ⟨fun b o e => ?_, fun b o e => ?_, fun b o e => ?_, ?_⟩, ⟨fun b o e n => ?_, x2.gg, fun b o e => x2.gn b o e, fun b o e => ?_, fun n b e => ?_, fun b o e => ?_⟩, rfl⟩
  · have q : b ≠ p := fun z => by rw [z] at e; rw [show g2.G p = some o from e] at pG; cases pG
    rw [upd_ne q]; exact l2.gh b o e
  · have e' : upd (upd g2.R p _) l (.lst vs) b = some o := e
    by_cases q : b = l
    · subst q
      rw [upd_same] at e'; cases e'
      rw [upd_ne (Ne.symm ne)]; exact hl
    · rw [upd_ne q] at e'
      by_cases q2 : b = p
      · subst q2
        rw [upd_same] at e'; cases e'
        exact upd_same
      · rw [upd_ne q2] at e' ⊢
        exact l2.rh b o e'
  · have q : b ≠ p := fun z => by rw [z] at e; rw [show g2.G p = some o from e] at pG; cases pG
    have q2 : b ≠ l := fun z => by rw [z] at e; rw [show g2.G l = some o from e] at lG; cases lG
    show upd (upd g2.R p _) l (.lst vs) b = none
    rw [upd_ne q2, upd_ne q]
    exact l2.dj b o e
  · show ∃ a l', _
    refine ⟨p, l, ne, rfl, rfl, ?_, ?_⟩
    · show upd (upd g2.R p _) l (.lst vs) p = _
      rw [upd_ne ne, upd_same]
    · show upd (upd g2.R p _) l (.lst vs) l = _
      rw [upd_same, ev]
  · have q : b ≠ p := fun z => by rw [z, np] at e; cases e
    rw [upd_ne q]
    exact x2.keep b o e n
  · have e' : upd (upd g2.R p _) l (.lst vs) b = some o := e
    by_cases q : b = l
    · subst q; exact .inr nl
    · rw [upd_ne q] at e'
      by_cases q2 : b = p
      · subst q2; exact .inr np
      · rw [upd_ne q2] at e'
        exact x2.rn b o e'
  · have e' := x2.am n b e
    show (if n = 1 then some p else if n = 2 then some l else g2.am n) = some b
    by_cases q : n = 1
    · subst q; rw [a1] at e'; cases e'
    · by_cases q2 : n = 2
      · subst q2; rw [a2] at e'; cases e'
      · rw [if_neg q, if_neg q2]; exact e'
  · by_cases q : b = p
    · rw [q, upd_same]; simp
    · rw [upd_ne q]; exact x2.th b o e
section
variable {c : Ct} {fl : Fls} {a b t : Expr} {ma mb mt : Md} {fa fb ft : En → M D} {pos p1 p2 p3 : Pos} {j1 j2 j3 : Nat}
/-- the same, the base kept -/
theorem _root_.MW.Res.bindB {P : Pm} {g : Gh} {H H0 : Hp} {E : WD} {α β : Type} {m : M α} {k : α → M β} {K : β → Gh → Hp → Prop} (x0 : Ext g H g H0) (h : Res P g H E (M.bind m k g.w) K) :
    Res P g H0 E (m g.w) fun a g1 _ => Res P g H E (k a g1.w) K := by
  unfold M.bind at h
  cases e : m g.w with
  | ok a w =>
    rw [e] at h
    intro g1 H1 e1 l1 x1
    subst e1
    exact h
  | exc c d w =>
    rw [e] at h
    exact fun g1 H1 e1 l1 x1 => h g1 H1 e1 l1 (x0.trans x1)
  | bad => rw [e] at h; exact h
theorem _root_.MW.Res.bindC {P : Pm} {g g1 : Gh} {H H1 : Hp} {E : WD} {α β : Type} {m : M α} {k : α → M β} {K : β → Gh → Hp → Prop} (x0 : Ext g H g1 H1) (h : Res P g H E (M.bind m k g1.w) K) :
    Res P g1 H1 E (m g1.w) fun a g2 _ => Res P g H E (k a g2.w) K := by
  unfold M.bind at h
  cases e : m g1.w with
  | ok a w =>
    rw [e] at h
    intro g2 H2 e2 l2 x2
    subst e2
    exact h
  | exc c d w =>
    rw [e] at h
    exact fun g2 H2 e2 l2 x2 => h g2 H2 e2 l2 (x0.trans x2)
  | bad => rw [e] at h; exact h
theorem jx_mkdraw (ha : JX c fl a ma fa) (hb : JX c fl b .O fb) (ht : JX c fl t mt ft) :
    JX c fl (.Dict [some (.Constant (.str "mixed") j1 p1), some (.Constant (.str "great") j2 p2), some (.Constant (.str "turn") j3 p3)] [a, b, t] pos) .F
      fun ρ => M.bind (fa ρ) fun x => M.bind (fb ρ) fun y => M.bind (ft ρ) fun z => drawMk x y z := by
  refine ⟨(pe_disp (pps_cons pe_str ha.pe (pps_cons pe_str hb.pe (pps_cons pe_str ht.pe pps_nil))) rfl rfl (by simp) (by simp)).imp fun σ H Q ⟨g, ρ, S, r⟩ p np => ?_, rfl⟩
  have lp := S.lay.new (o := .dK []) np
  have xp := Ext.new (g := g) (o := .dK []) np
  have fr := S.lay.free np
  have S0 := S.to lp xp
  refine ⟨g, ρ, S0, (r.bindC xp).imp fun x g1 H1 l1 x1 h1 v1 q1 => ?_⟩
  refine ⟨g1, ρ, S0.to l1 x1, (h1.bindC (xp.trans x1)).imp fun y g2 H2 l2 x2 h2 v2 q2 => ?_⟩
  refine ⟨g2, ρ, (S0.to l1 x1).to l2 x2, (h2.bindC ((xp.trans x1).trans x2)).imp fun z g3 H3 l3 x3 h3 v3 q3 => ?_⟩
  have x03 : Ext g (upd H p (.dK [])) g3 H3 := (x1.trans x2).trans x3
  have hp0 : upd H p (.dK []) p = some (.dK []) := upd_same
  have hp3 := x03.keep p _ hp0 fr.2
  have pR := x03.rnone hp0 fr.2
  have pG : g3.G p = none := by
    cases e : g3.G p with
    | none => rfl
    | some u =>
      rcases x03.gn p u e with q | q
      · rw [fr.1] at q; cases q
      · rw [hp0] at q; cases q
  unfold drawMk at h3
  split at h3
  · rename_i m ds t' hd
    split at h3
    · rename_i ns hn
      obtain ⟨al, vs, rfl, e3, e4, e5, e6⟩ := Own.ext x3 q2.1
      have n1 := q2.2 ds al rfl rfl
      have nl : H al = none := by
        cases e : H al with
        | none => rfl
        | some o => exact absurd n1 ((xp.trans x1).th al o e)
      have i1 := (q1.toP).int
      have i3 := (q3.toP).int
      obtain ⟨g4, w4, a4, l4, x4, _⟩ := mkdraw_lay (m := m) (t := t') (ns := ns) l3 (xp.trans x03) hd np nl hp3 pG pR e3 e4 e5 (rps_ints e6 hn)
      refine ⟨hp3, [(Sum.inr "mixed", v1), (Sum.inr "great", .ref al), (Sum.inr "turn", v3)], rfl, by simp, ?_⟩
      rw [i1, i3]
      exact h3 g4 _ w4 l4 x4 _ (Rp.cell a4)
    · exact h3.elim
  · exact h3.elim
end
/-! ### the draw is written -/
/-- d['mixed'] = n, d['turn'] = n -/
def drawSet (k : Str) (d : Draw) (n : Int) : Option Draw := if k = "mixed" then some { d with mixed := n } else if k = "turn" then some { d with turn := n } else none
def fPutD (i : Nat) (k : Str) : D → En → M En := fun x ρ w => match ρ[i]?.join, x, w.draw with
  | some (.cell 1), .int n, some d => (match drawSet k d n with
    | some d' => .ok ρ { w with draw := some d' }
    | none => .bad)
  | _, _, _ => .bad
theorem draw_put {K : PySem.W.Frag} {w : Wd} {am : Nat → Option Addr} {R : Hp} {d d' : Draw} {k : Str} {n : Int} {a q : Addr} (hd : w.draw = some d) (e : drawSet k d n = some d') (ne : a ≠ q) (h1 : am 1 = some a) (h2 : am 2 = some q)
    (h3 : R a = some (.dK [(Sum.inr "mixed", .int d.mixed), (Sum.inr "great", .ref q), (Sum.inr "turn", .int d.turn)])) (h4 : R q = some (.lst (d.great.map V.int))) :
    WRel K { w with draw := some d' } am (upd R a (.dK (putK [(Sum.inr "mixed", .int d.mixed), (Sum.inr "great", .ref q), (Sum.inr "turn", .int d.turn)] (Sum.inr k) (.int n)))) := by
  unfold drawSet at e
  split at e
  · cases e
    subst k
    exact ⟨a, q, ne, h1, h2, upd_same.trans rfl, (upd_ne (Ne.symm ne)).trans h4⟩
  · split at e
    · cases e
      subst k
      exact ⟨a, q, ne, h1, h2, upd_same.trans rfl, (upd_ne (Ne.symm ne)).trans h4⟩
    · cases e
section
variable {c : Ct} {fl : Fls} {a : Expr} {mk : Md} {fk : En → M D} {pos p p2 : Pos} {i j : Nat} {x k : Str}
theorem SRel.cells {P : Pm} {g0 g : Gh} {H0 H : Hp} {σ : L2.St} {ρ : En} (S : SRel P g0 H0 fl g H σ ρ) {b : Addr} {u u' : HO} (h : g.R b = some u) {w : Wd} (wr : WRel P.K w g.am (upd g.R b u')) : SRel P g0 H0 fl { g with R := upd g.R b u', w := w } (upd H b u') σ ρ :=
  S.to (S.lay.cells h wr) (Ext.cells S.lay h w)
theorem ju_dput (ok : c.Ok) (hN : c.X.N[i]? = some x) (hv : Vis c.X.env.scope x) (hd : (x == ("__debug__" : Str)) = false) (hcd : (x == ("__classdict__" : Str)) = false) (hf : fl[i]? ≠ some true)
    (ha : ∀ v, assign (.Subscript (.Name x p) (.Constant (.str k) j p2) pos) c.X.env v = (do
      let ov ← holding [v] (eval (.Name x p) c.X.env)
      let iv ← holding [v, ov] (eval (.Constant (.str k) j p2) c.X.env)
      standAt pos
      holding [v, ov, iv] (setItem ov iv v)
      release [v, ov, iv] []) := by intro _; rfl) : JU1 c fl fl (.Subscript (.Name x p) (.Constant (.str k) j p2) pos) (fPutD i k) := by
  have hu : c.X.A.units + 1 < cLine := by have := ok.hu; omega
  refine ⟨(pg_sub (pe_var hN hv hd hcd) pe_str (set_dict hu) ha).imp fun v σ H Q ⟨g, ρ, d, S, r, u⟩ => ?_⟩
  unfold UU fPutD at u
  split at u
  · rename_i hρ ew
    split at ew
    · rename_i n dr hj hdr
      split at ew
      · rename_i d' e
        cases ew
        obtain ⟨ad, qd, hne, h2, h3, h4, h5⟩ := draw_at S.lay hdr
        obtain ⟨vx, hσ, rx⟩ := S.fro i _ (join_some hj) hf
        obtain ⟨av, rfl, h6⟩ := rp_cell rx
        rw [h2] at h6
        cases h6
        have ev : v = .int n := by cases r; rfl
        subst ev
        have hH := S.lay.rh _ _ h4
        refine ⟨_, hσ, ad, _, rfl, DPut.k (k := Sum.inr k) hH (by rw [sizeLine_eq]; simp), ?_⟩
        exact u _ _ σ rfl (Ext.cells S.lay h4 _).grow (S.cells h4 (draw_put hdr e hne h2 h3 h4 h5))
      · cases ew
    · cases ew
  · exact u.elim
/-- g[k] = n -/
def fPutG (i : Nat) (fk : En → M D) : D → En → M En := fun x ρ => M.bind (fk ρ) fun k w => match ρ[i]?.join, x, k, w.draw with
  | some (.cell 2), .int n, .int m, some d => (match ixN d.great.length m with
    | some j => .ok ρ { w with draw := some { d with great := d.great.set j n } }
    | none => .bad)
  | _, _, _, _ => .bad
theorem ju_gput (hN : c.X.N[i]? = some x) (hv : Vis c.X.env.scope x) (hd : (x == ("__debug__" : Str)) = false) (hcd : (x == ("__classdict__" : Str)) = false) (hf : fl[i]? ≠ some true) (hk : JX c fl a mk fk)
    (ha : ∀ v, assign (.Subscript (.Name x p) a pos) c.X.env v = (do
      let ov ← holding [v] (eval (.Name x p) c.X.env)
      let iv ← holding [v, ov] (eval a c.X.env)
      standAt pos
      holding [v, ov, iv] (setItem ov iv v)
      release [v, ov, iv] []) := by intro _; rfl) : JU1 c fl fl (.Subscript (.Name x p) a pos) (fPutG i fk) := by
  refine ⟨(pg_sub (pe_var hN hv hd hcd) hk.pe set_list ha).imp fun v σ H Q ⟨g, ρ, d, S, r, u⟩ => ?_⟩
  obtain ⟨kd, w1, e1, u⟩ := u.bind
  unfold UU at u
  split at u
  · rename_i hρ ew
    split at ew
    · rename_i n m dr hj hdr
      split at ew
      · rename_i jj e
        cases ew
        obtain ⟨vx, hσ, rx⟩ := S.fro i _ (join_some hj) hf
        refine ⟨_, hσ, g, ρ, S, ?_⟩
        rw [e1]
        intro g2 H2 ew2 l2 x2 vk pk
        obtain ⟨b, rfl, h4, hH⟩ := great_at l2 (by rw [ew2]; exact hdr) (rx.ext x2)
        have S2 := S.to l2 x2
        obtain ⟨ad, qd, hne, a1, a2, h3, h5⟩ := draw_at l2 (by rw [ew2]; exact hdr)
        have eb : b = qd := by
          obtain ⟨_, z, h6⟩ := rp_cell (rx.ext x2)
          cases z
          rw [a2] at h6
          cases h6; rfl
        subst eb
        have ev : v = .int n := by cases r; rfl
        subst ev
        have ek : vk = .int m := (show Post c.P H .P g2 H2 vk (.int m) from pk.toP).int
        subst ek
        refine ⟨b, _, m, jj, rfl, rfl, hH, by rw [List.length_map]; exact e, ?_⟩
        have wr : WRel c.P.K { w1 with draw := some { dr with great := dr.great.set jj n } } g2.am (upd g2.R b (.lst ((dr.great.map V.int).set jj (.int n)))) :=
          ⟨ad, b, hne, a1, a2, (upd_ne hne).trans h3, upd_same.trans (by rw [List.map_set])⟩
        exact u _ _ σ rfl (x2.grow.trans (Ext.cells l2 h4 _).grow) (S2.cells h4 wr)
      · cases ew
    · cases ew
  · exact u.elim
end
end MW
end
section
set_option Elab.async false
set_option autoImplicit false
set_option maxRecDepth 100000
/-! MW30: the small language, its evaluator, and what it matches. -/
namespace MW
open PySem L2

inductive Bt where | len | int | max | min | sum | all | any | tuple | repr | sorted
  deriving DecidableEq
mutual
/-- expressions -/
inductive MX where
  | var (i : Nat)
  | int (i : Int) | str (x : Str) | bl (b : Bool) | non
  | glb (k : Nat)
  | bin (o : BOp) (a b : MX) | cmp (o : COp) (a b : MX) | chain (o o' : COp) (a b t : MX)
  | and (a b : MX) | or (a b : MX) | not (a : MX) | neg (a : MX) | isN (a : MX) | notN (a : MX)
  | ite (t a b : MX)
  | tup (es : MXs) | lst (es : MXs) | dict0
  | ix (a b : MX) | sl (a : MX) (lo hi : MO)
  | call (f : Nat) (es : MXs) | blt (b : Bt) (es : MXs) | isTy (a : MX) (t : Ty)
  | comp (own : List Nat) (T : Tg) (it : MI) (t : MX) (e : MX)
  | rev (a : MX) | lrg (a : MX) | call0 (f : Nat)
  /-- errors: an attribute, of which class, a new one -/
  | dget (a : MX) (k : Str) | glen (a : MX) | gix (a b : MX) | gne (a : MX) | mkDraw (a b t : MX)
  | exA (a : MX) (n : Str) | isE (a : MX) (t : Nat) | isE2 (a : MX) (t u : Nat) | mkE (k : Nat) (a : MX) | mkT (k : Nat)
inductive MXs where
  | nil | cons (a : MX) (es : MXs)
/-- an optional part of a slice -/
inductive MO where
  | no | yes (a : MX)
/-- what is walked -/
inductive MI where
  | seq (a : MX) | r1 (es : MXs) | r2 (es : MXs) | pairs (a : MX)
end
/-- targets of all kinds -/
inductive MT where
  | nm (i : Nat) | sub (i : Nat) (k : MX) | dsub (i : Nat) (k : Str) | gsub (i : Nat) (k : MX)
/-- statements -/
inductive MS where
  | pass | brk | cont | retN | ret (a : MX)
  | set (i : Nat) (a : MX) | par (is : List Nat) (os : List Bool) (es : MXs) | asg (t : MT) (a : MX) | asgs (ts : List MT) (a : MX)
  | app (i : Nat) (a : MX) | expr (a : MX)
  | nil | cons (a b : MS)
  | ifs (t : MX) (a b : MS) | for_ (T : Tg) (it : MI) (b : MS) | whl (n : Nat) (t : MX) (b : MS)
  | raise_ (k : Nat) (a : MX) | raiseT (k : Nat) | try_ (cl : List Nat) (nm : Option Nat) (o : One) (a : MX) (s : MS)
  /-- these slots are one's own no longer -/
  | drop (l : List Nat) (a : MS)

def Bt.run : Bt → List D → Option D
  | .len => D.bLen | .int => D.bInt | .max => D.bMax | .min => D.bMin | .sum => D.bSum | .all => D.bAll | .any => D.bAny | .tuple => D.bTuple | .repr => D.bRepr | .sorted => D.bSorted

/-- the table of defs and constants -/
structure Tb where
  fn : Nat → List D → M D
  gl : Nat → D
  /-- the attribute of the errors of a class -/
  enm : Nat → Option Str
  /-- whether the errors of a class k are instances of the class t -/
  isx : Nat → Nat → Option Bool
def Tb.isx2 (B : Tb) (t u k : Nat) : Option Bool := match B.isx t k, B.isx u k with
  | some a, some b => some (a || b)
  | _, _ => none
def Tb.mch (B : Tb) : List Nat → Nat → Option Bool
  | [t], k => B.isx t k
  | [t, u], k => B.isx2 t u k
  | _, _ => none

mutual
def MX.ev (B : Tb) : MX → En → M D
  | .var i, ρ => fVar i ρ
  | .int i, _ => M.pure (.int i)
  | .str x, _ => M.pure (.str x)
  | .bl b, _ => M.pure (.bl b)
  | .non, _ => M.pure .non
  | .glb k, _ => M.pure (B.gl k)
  | .bin o a b, ρ => M.bind (a.ev B ρ) fun x => M.bind (b.ev B ρ) fun y => M.opt (D.bop o x y)
  | .cmp o a b, ρ => M.bind (a.ev B ρ) fun x => M.bind (b.ev B ρ) fun y => M.bind (M.opt (D.cop o x y)) fun z => M.pure (.bl z)
  | .chain o o' a b t, ρ => M.bind (a.ev B ρ) fun x => M.bind (b.ev B ρ) fun y => M.bind (M.opt (D.cop o x y)) fun k => if k then M.bind (t.ev B ρ) fun z => M.bind (M.opt (D.cop o' y z)) fun k' => M.pure (.bl k') else M.pure (.bl false)
  | .and a b, ρ => M.bind (a.ev B ρ) fun x => M.bind (asBl x) fun k => if k then M.bind (b.ev B ρ) fun y => M.bind (asBl y) fun k' => M.pure (.bl k') else M.pure (.bl false)
  | .or a b, ρ => M.bind (a.ev B ρ) fun x => M.bind (asBl x) fun k => if k then M.pure (.bl true) else M.bind (b.ev B ρ) fun y => M.bind (asBl y) fun k' => M.pure (.bl k')
  | .not a, ρ => M.bind (a.ev B ρ) fun x => M.bind (asBl x) fun k => M.pure (.bl !k)
  | .neg a, ρ => M.bind (a.ev B ρ) fun x => M.opt (D.neg x)
  | .isN a, ρ => M.bind (a.ev B ρ) fun x => M.pure (.bl (isNon x))
  | .notN a, ρ => M.bind (a.ev B ρ) fun x => M.pure (.bl !(isNon x))
  | .ite t a b, ρ => M.bind (t.tst B ρ) fun k => if k then a.ev B ρ else b.ev B ρ
  | .tup es, ρ => M.bind (es.ev B ρ) fun xs => if fits xs.length then M.pure (.tup xs) else M.bad
  | .lst es, ρ => M.bind (es.ev B ρ) fun xs => if fits xs.length then M.pure (.lst xs) else M.bad
  | .dict0, _ => M.pure (.dic [])
  | .ix a b, ρ => M.bind (a.ev B ρ) fun x => M.bind (b.ev B ρ) fun y => M.opt (D.ix x y)
  | .sl a lo hi, ρ => M.bind (a.ev B ρ) fun x => M.bind (lo.ev B ρ) fun l => M.bind (hi.ev B ρ) fun h => M.opt (D.slice x l h)
  | .call f es, ρ => M.bind (es.ev B ρ) (B.fn f)
  | .blt b es, ρ => M.bind (es.ev B ρ) fun ds => M.opt (b.run ds)
  | .isTy a t, ρ => M.bind (a.ev B ρ) fun x => M.bind (M.opt (D.isTy x t)) fun b => M.pure (.bl b)
  | .comp own T it t e, ρ => fComp own T (it.ev B) (t.tst B) (e.ev B) ρ
  | .rev a, ρ => M.bind (a.ev B ρ) fun x => M.opt (D.rev x)
  | .call0 f, _ => B.fn f []
  | .lrg a, ρ => M.bind (a.ev B ρ) fun x => M.opt (MW.lrg [x])
  | .dget a k, ρ => M.bind (a.ev B ρ) (drawGet k)
  | .glen a, ρ => M.bind (a.ev B ρ) greatLen
  | .gix a b, ρ => M.bind (a.ev B ρ) fun x => M.bind (b.ev B ρ) fun y => greatIx x y
  | .gne _, _ => M.bad
  | .mkDraw a b t, ρ => M.bind (a.ev B ρ) fun x => M.bind (b.ev B ρ) fun y => M.bind (t.ev B ρ) fun z => drawMk x y z
  | .exA a n, ρ => M.bind (a.ev B ρ) (exDat B.enm n)
  | .isE a t, ρ => M.bind (a.ev B ρ) fun x => M.bind (asExn x) fun k => M.bind (M.opt (B.isx t k)) fun b => M.pure (.bl b)
  | .isE2 a t u, ρ => M.bind (a.ev B ρ) fun x => M.bind (asExn x) fun k => M.bind (M.opt (B.isx2 t u k)) fun b => M.pure (.bl b)
  | .mkE k a, ρ => M.bind (a.ev B ρ) fun d => M.pure (.exn k d)
  | .mkT k, _ => M.pure (.exn k .non)
/-- as a test -/
def MX.tst (B : Tb) : MX → En → M Bool
  | .cmp o a b, ρ => M.bind (a.ev B ρ) fun x => M.bind (b.ev B ρ) fun y => M.opt (D.cop o x y)
  | .chain o o' a b t, ρ => M.bind (a.ev B ρ) fun x => M.bind (b.ev B ρ) fun y => M.bind (M.opt (D.cop o x y)) fun k => if k then M.bind (t.ev B ρ) fun z => M.opt (D.cop o' y z) else M.pure false
  | .and a b, ρ => M.bind (a.tst B ρ) fun k => if k then b.tst B ρ else M.pure false
  | .or a b, ρ => M.bind (a.tst B ρ) fun k => if k then M.pure true else b.tst B ρ
  | .not a, ρ => M.bind (a.tst B ρ) fun k => M.pure !k
  | .isN a, ρ => M.bind (a.ev B ρ) fun x => M.pure (isNon x)
  | .notN a, ρ => M.bind (a.ev B ρ) fun x => M.pure !(isNon x)
  | .bl true, _ => M.pure true
  | .var i, ρ => M.bind (fVar i ρ) fun x => M.opt (D.truth x)
  | .ix a b, ρ => M.bind (M.bind (a.ev B ρ) fun x => M.bind (b.ev B ρ) fun y => M.opt (D.ix x y)) fun x => M.opt (D.truth x)
  | .call f es, ρ => M.bind (M.bind (es.ev B ρ) (B.fn f)) fun x => M.opt (D.truth x)
  | .blt b es, ρ => M.bind (M.bind (es.ev B ρ) fun ds => M.opt (b.run ds)) fun x => M.opt (D.truth x)
  | .call0 f, _ => M.bind (B.fn f []) fun x => M.opt (D.truth x)
  | .isTy a t, ρ => M.bind (M.bind (a.ev B ρ) fun x => M.bind (M.opt (D.isTy x t)) fun b => M.pure (.bl b)) fun x => M.opt (D.truth x)
  | .isE a t, ρ => M.bind (M.bind (a.ev B ρ) fun x => M.bind (asExn x) fun k => M.bind (M.opt (B.isx t k)) fun b => M.pure (.bl b)) fun x => M.opt (D.truth x)
  | .isE2 a t u, ρ => M.bind (M.bind (a.ev B ρ) fun x => M.bind (asExn x) fun k => M.bind (M.opt (B.isx2 t u k)) fun b => M.pure (.bl b)) fun x => M.opt (D.truth x)
  | .gne a, ρ => M.bind (a.ev B ρ) greatNe
  | _, _ => M.bad
def MXs.ev (B : Tb) : MXs → En → M (List D)
  | .nil, _ => M.pure []
  | .cons a es, ρ => M.bind (a.ev B ρ) fun x => M.bind (es.ev B ρ) fun xs => M.pure (x :: xs)
def MO.ev (B : Tb) : MO → En → M (Option Int)
  | .no, _ => M.pure none
  | .yes a, ρ => M.bind (a.ev B ρ) fun x => M.opt (D.asInt x)
def MI.ev (B : Tb) : MI → En → M (List D)
  | .seq a, ρ => M.bind (a.ev B ρ) fun x => M.opt (asSeq x)
  | .r1 es, ρ => M.bind (es.ev B ρ) fun ds => M.opt (rng1 ds)
  | .r2 es, ρ => M.bind (es.ev B ρ) fun ds => M.opt (rng2 ds)
  | .pairs a, ρ => M.bind (a.ev B ρ) fun x => M.bind (M.opt (asSeq x)) fun l => M.pure (pairsD 0 l)
end
def MT.put (B : Tb) : MT → D → En → M En
  | .nm i => fPutN i
  | .sub i k => fPutS i (k.ev B)
  | .dsub i k => fPutD i k
  | .gsub i k => fPutG i (k.ev B)
def putAll (B : Tb) : List MT → List D → En → M En
  | [] => fPutNil
  | t :: ts => fPutCons (t.put B) (putAll B ts)
def MS.run (B : Tb) : MS → En → M Fl
  | .pass, ρ => M.pure (.nx ρ)
  | .brk, ρ => M.pure (.bk ρ)
  | .cont, ρ => M.pure (.ct ρ)
  | .retN, _ => M.pure (.rt .non)
  | .ret a, ρ => M.bind (a.ev B ρ) fun d => M.pure (.rt d)
  | .set i a, ρ => fSet i (a.ev B) ρ
  | .par is _ es, ρ => fPar is (es.ev B) ρ
  | .asg t a, ρ => fAsg (t.put B) (a.ev B) ρ
  | .asgs ts a, ρ => fAsg (fPutT ts.length (putAll B ts)) (a.ev B) ρ
  | .app i a, ρ => fApp i (a.ev B) ρ
  | .expr a, ρ => M.bind (a.ev B ρ) fun _ => M.pure (.nx ρ)
  | .nil, ρ => M.pure (.nx ρ)
  | .cons a b, ρ => fSeq (a.run B) (b.run B) ρ
  | .ifs t a b, ρ => M.bind (t.tst B ρ) fun k => if k then a.run B ρ else b.run B ρ
  | .for_ T it b, ρ => fFor T (it.ev B) (b.run B) ρ
  | .whl n t b, ρ => whL (t.tst B) (b.run B) n ρ
  | .raise_ k a, ρ => M.bind (a.ev B ρ) fun d => M.raise k d
  | .raiseT k, _ => M.raise k .non
  | .try_ cl nm o a s, ρ => fTry (B.mch cl) nm o (a.ev B) (s.run B) ρ
  | .drop _ a, ρ => a.run B ρ
end MW
end
section
set_option Elab.async false
set_option autoImplicit false
set_option maxRecDepth 100000
/-! MW31: the match of the small language with Python's syntax. -/
namespace MW
open PySem L2

structure Ck where
  N : List Str
  fn : Nat → Option Str
  gl : Nat → Option Str
  /-- the names of the classes of errors that are made, and of those that are asked for -/
  ex : Nat → Option Str
  ex0 : Nat → Option Str
  tg : Nat → Option Str
def Bt.name : Bt → Str
  | .len => "len" | .int => "int" | .max => "max" | .min => "min" | .sum => "sum" | .all => "all" | .any => "any" | .tuple => "tuple" | .repr => "repr" | .sorted => "sorted"
def slotB (C : Ck) (sc : Scope) (i : Nat) (x : Str) : Bool := decide (C.N[i]? = some x) && visB sc x && !(x == ("__debug__" : Str)) && !(x == ("__classdict__" : Str))
def storeB (C : Ck) (sc : Scope) (i : Nat) (x : Str) : Bool := decide (C.N[i]? = some x) && locB sc x
def namesB (C : Ck) (sc : Scope) : List Nat → List Expr → Bool
  | [], [] => true
  | i :: l, .Name x _ :: es => storeB C sc i x && namesB C sc l es
  | _, _ => false
def Tg.chk (C : Ck) (sc : Scope) : Tg → Expr → Bool
  | .one i, .Name x _ => storeB C sc i x
  | .tup l, .Tuple es _ _ => namesB C sc l es
  | _, _ => false
def ownP (C : Ck) (l : List Nat) : List (Str × Nat) := l.filterMap fun i => (C.N[i]?).map fun x => (x, i)
/-- the mode of an expression -/
def MX.md (fl : Fls) : MX → Md
  | .var i => if fl[i]? = some true then .P else .F
  | .bin _ _ _ => .O
  | .lst _ => .O
  | .sl _ _ _ => .O
  | .blt _ _ => .O
  | .comp _ _ _ _ _ => .O
  | .rev _ => .O
  | .lrg _ => .O
  | .ite _ a b => match a.md fl, b.md fl with
    | .O, .O => .O
    | _, _ => .F
  | _ => .F
def MX.notP (fl : Fls) (a : MX) : Bool := decide (a.md fl ≠ .P)
def MXs.notP (fl : Fls) : MXs → Bool
  | .nil => true
  | .cons a es => a.notP fl && es.notP fl
def isNone : Expr → Bool
  | .Constant .none _ _ => true
  | _ => false
def isTupE : Expr → Bool
  | .Tuple _ _ _ => true
  | _ => false
def MI.tgOk : MI → Expr → Bool
  | .pairs _, e => isTupE e
  | _, _ => true
mutual
def MX.chk (C : Ck) (sc : Scope) (fl : Fls) : MX → Expr → Bool
  | .var i, e' => match e' with
    | .Name x _ => slotB C sc i x
    | _ => false
  | .int i, e' => match e' with
    | .Constant (.int j) _ _ => decide (i = j)
    | _ => false
  | .str x, e' => match e' with
    | .Constant (.str y) _ _ => decide (x = y)
    | _ => false
  | .bl x, e' => match e' with
    | .Constant (.bool y) _ _ => decide (x = y)
    | _ => false
  | .non, e' => match e' with
    | .Constant .none _ _ => true
    | _ => false
  | .glb k, e' => match e' with
    | .Name x _ => decide (C.gl k = some x) && glB sc x
    | _ => false
  | .bin o a b, e' => match e' with
    | .BinOp x op y _ => decide (op = o.py) && a.chk C sc fl x && b.chk C sc fl y
    | _ => false
  | .cmp o a b, e' => match e' with
    | .Compare x [op] [y] _ => decide (op = o.py) && a.chk C sc fl x && b.chk C sc fl y
    | _ => false
  | .chain o o' a b t, e' => match e' with
    | .Compare x [op, op'] [y, z] _ => decide (op = o.py) && decide (op' = o'.py) && a.chk C sc fl x && b.chk C sc fl y && t.chk C sc fl z
    | _ => false
  | .and a b, e' => match e' with
    | .BoolOp .And (x :: y :: rest) pos => a.chk C sc fl x && (match rest with
        | [] => b.chk C sc fl y
        | z :: rest => b.chk C sc fl (.BoolOp .And (y :: z :: rest) pos))
    | _ => false
  | .or a b, e' => match e' with
    | .BoolOp .Or (x :: y :: rest) pos => a.chk C sc fl x && (match rest with
        | [] => b.chk C sc fl y
        | z :: rest => b.chk C sc fl (.BoolOp .Or (y :: z :: rest) pos))
    | _ => false
  | .not a, e' => match e' with
    | .UnaryOp .Not x _ => a.chk C sc fl x
    | _ => false
  | .neg a, e' => match e' with
    | .UnaryOp .USub x _ => a.chk C sc fl x
    | _ => false
  | .isN a, e' => match e' with
    | .Compare x [.Is] [.Constant .none _ _] _ => a.chk C sc fl x
    | _ => false
  | .notN a, e' => match e' with
    | .Compare x [.IsNot] [.Constant .none _ _] _ => a.chk C sc fl x
    | _ => false
  | .ite t a b, e' => match e' with
    | .IfExp x y z _ => t.chk C sc fl x && a.chk C sc fl y && b.chk C sc fl z && a.notP fl && b.notP fl
    | _ => false
  | .tup es, e' => match e' with
    | .Tuple xs _ _ => es.chk C sc fl xs && es.notP fl
    | _ => false
  | .lst es, e' => match e' with
    | .List xs _ => es.chk C sc fl xs && es.notP fl
    | _ => false
  | .dict0, e' => match e' with
    | .Dict [] [] _ => true
    | _ => false
  | .ix a b, e' => match e' with
    | .Subscript x y _ => a.chk C sc fl x && b.chk C sc fl y
    | _ => false
  | .sl a lo hi, e' => match e' with
    | .Subscript x (.Slice l h none _) _ => a.chk C sc fl x && lo.chk C sc fl l && hi.chk C sc fl h
    | _ => false
  | .call f es, e' => match e' with
    | .Call (.Name x _) (y :: ys) [] _ => decide (C.fn f = some x) && glB sc x && es.chk C sc fl (y :: ys) && es.notP fl
    | _ => false
  | .blt b es, e' => match e' with
    | .Call (.Name x _) (y :: ys) [] _ => decide (x = b.name) && glB sc x && es.chk C sc fl (y :: ys)
    | _ => false
  | .isTy a t, e' => match e' with
    | .Call (.Name x _) [y, .Name T _] [] _ => decide (x = ("isinstance" : Str)) && glB sc x && glB sc T && decide (T = Str.ofString t.py) && a.chk C sc fl y
    | _ => false
  | .comp own T it t e, e' => match e' with
    | .ListComp elt [⟨tg, iter, ifs, 0⟩] scope _ => it.chk C sc fl iter && it.tgOk tg && blkC C.N sc scope (ownP C own) && decide ((ownP C own).map (·.2) = own) && T.chk C scope tg && T.slots.all (fun i => own.contains i) &&
          (match ifs with
          | [] => (match t with | .bl true => true | _ => false)
          | [z] => t.chk C scope (T.fl fl) z
          | _ => false) && e.chk C scope (T.fl fl) elt && e.notP (T.fl fl)
    | _ => false
  | .rev a, e' => match e' with
    | .Subscript x (.Slice none none (some (.UnaryOp .USub (.Constant (.int i) _ _) _)) _) _ => decide (i = 1) && a.chk C sc fl x
    | _ => false
  | .call0 f, e' => match e' with
    | .Call (.Name x _) [] [] _ => decide (C.fn f = some x) && glB sc x
    | _ => false
  | .lrg a, e' => match e' with
    | .Call (.Name x _) [.Call (.Name y _) [z] [] _] [] _ => decide (x = ("list" : Str)) && glB sc x && decide (y = ("range" : Str)) && glB sc y && a.chk C sc fl z
    | _ => false
  | .dget a k, e' => match e' with
    | .Subscript x (.Constant (.str y) _ _) _ => decide (k = y) && a.chk C sc fl x
    | _ => false
  | .glen a, e' => match e' with
    | .Call (.Name x _) [y] [] _ => decide (x = ("len" : Str)) && glB sc x && a.chk C sc fl y
    | _ => false
  | .gix a b, e' => match e' with
    | .Subscript x y _ => a.chk C sc fl x && b.chk C sc fl y
    | _ => false
  | .gne a, e' => match e' with
    | .Compare x [.NotEq] [.List [] _] _ => a.chk C sc fl x
    | _ => false
  | .mkDraw a b t, e' => match e' with
    | .Dict [some (.Constant (.str k1) _ _), some (.Constant (.str k2) _ _), some (.Constant (.str k3) _ _)] [x, y, z] _ => decide (k1 = ("mixed" : Str)) && decide (k2 = ("great" : Str)) && decide (k3 = ("turn" : Str)) && a.chk C sc fl x && b.chk C sc fl y && t.chk C sc fl z && decide (b.md fl = .O)
    | _ => false
  | .exA a n, e' => match e' with
    | .Attribute (.Name x p) m _ => decide (m = n) && a.chk C sc fl (.Name x p)
    | .Attribute (.Subscript x y p) m _ => decide (m = n) && a.chk C sc fl (.Subscript x y p)
    | .Attribute (.Call (.Name x p) (y :: ys) [] q) m _ => decide (m = n) && a.chk C sc fl (.Call (.Name x p) (y :: ys) [] q)
    | _ => false
  | .isE a t, e' => match e' with
    | .Call (.Name x _) [y, .Name T _] [] _ => decide (x = ("isinstance" : Str)) && glB sc x && glB sc T && decide (C.tg t = some T) && a.chk C sc fl y
    | _ => false
  | .isE2 a t u, e' => match e' with
    | .Call (.Name x _) [y, .Tuple [.Name T _, .Name U _] _ _] [] _ => decide (x = ("isinstance" : Str)) && glB sc x && glB sc T && glB sc U && decide (C.tg t = some T) && decide (C.tg u = some U) && a.chk C sc fl y
    | _ => false
  | .mkE k a, e' => match e' with
    | .Call (.Name x _) [y] [] _ => decide (C.ex k = some x) && glB sc x && a.chk C sc fl y && a.notP fl
    | _ => false
  | .mkT k, e' => match e' with
    | .Call (.Name x _) [.Constant (.str _) _ _] [] _ => decide (C.ex0 k = some x) && glB sc x
    | _ => false
def MXs.chk (C : Ck) (sc : Scope) (fl : Fls) : MXs → List Expr → Bool
  | .nil, e' => match e' with
    | [] => true
    | _ => false
  | .cons a es, e' => match e' with
    | x :: xs => a.chk C sc fl x && es.chk C sc fl xs
    | _ => false
def MO.chk (C : Ck) (sc : Scope) (fl : Fls) : MO → Option Expr → Bool
  | .no, e' => match e' with
    | none => true
    | _ => false
  | .yes a, e' => match e' with
    | some x => a.chk C sc fl x
    | _ => false
def MI.chk (C : Ck) (sc : Scope) (fl : Fls) : MI → Expr → Bool
  | .r1 es, e' => match e' with
    | .Call (.Name x _) [y] [] _ => decide (x = ("range" : Str)) && glB sc x && es.chk C sc fl [y]
    | _ => false
  | .r2 es, e' => match e' with
    | .Call (.Name x _) [y, z] [] _ => decide (x = ("range" : Str)) && glB sc x && es.chk C sc fl [y, z]
    | _ => false
  | .pairs a, e' => match e' with
    | .Call (.Name x _) [y] [] _ => decide (x = ("enumerate" : Str)) && glB sc x && a.chk C sc fl y && a.notP fl
    | _ => false
  | .seq a, x => a.chk C sc fl x && a.notP fl
end
/-! ### statements -/
def drops' (l : List Nat) (fl : Fls) : Fls := MW.drops l fl
def dropTo (fl m : Fls) : List Nat := (List.range fl.length).filter fun i => decide (fl[i]? = some true) && !decide (m[i]? = some true)
/-- fl with some slots dropped is m -/
def downB (fl m : Fls) : Bool := decide (drops' (dropTo fl m) fl = m)
def meetF (a b : Fls) : Fls := List.zipWith (· && ·) a b
/-- what is stored by two or three names at once, as the machine does it -/
def swB (sc : Scope) (ts vs : List Expr) : Option (Option (List Str)) :=
  if !(ts.length == 2 || ts.length == 3) || vs.length != ts.length then some none else
  if (vs.any fun | .Starred .. => true | _ => false) then some none else
  let line := (ts.head?.map (·.pos.line)).getD 0
  let names := ts.filterMap fun
    | .Name id pos => if sc.names.lookup id == some .local && pos.line == line then some id else none
    | _ => none
  if names.length != ts.length || names.eraseDups.length != names.length then some none else
  if vs.all (foldedForSure 8) then some none else
  if vs.all (constantsAlone 8) then none else some (some names)
def noSlice : Expr → Bool
  | .Slice _ _ _ _ => false
  | .Starred _ _ => false
  | _ => true
def MT.chk (C : Ck) (sc : Scope) (fl : Fls) : MT → Expr → Option Fls
  | .nm i, .Name x _ => if storeB C sc i x then some (fl.set i false) else none
  | .dsub i k, .Subscript (.Name x _) (.Constant (.str y) _ _) _ => if slotB C sc i x && decide (fl[i]? ≠ some true) && decide (k = y) then some fl else none
  | .gsub i k, .Subscript (.Name x _) y _ => if slotB C sc i x && decide (fl[i]? ≠ some true) && k.chk C sc fl y then some fl else none
  | .sub i k, .Subscript (.Name x _) y _ => if slotB C sc i x && decide (fl[i]? = some true) && k.chk C sc fl y then some fl else none
  | _, _ => none
def chkAll (C : Ck) (sc : Scope) : Fls → List MT → List Expr → Option Fls
  | fl, [], [] => some fl
  | fl, t :: ts, e :: es => match t.chk C sc fl e with
    | some fl' => chkAll C sc fl' ts es
    | none => none
  | _, _, _ => none
def parOk (fl : Fls) : List Bool → MXs → Bool
  | [], .nil => true
  | true :: os, .cons a es => decide (a.md fl = .O) && parOk fl os es
  | false :: os, .cons a es => a.notP fl && parOk fl os es
  | _, _ => false
def parChk (C : Ck) (sc : Scope) (fl : Fls) (is : List Nat) (os : List Bool) (ts vs : List Expr) : Bool :=
  match swB sc ts vs with
  | some none => namesB C sc is ts && fits is.length
  | some (some ns) => (match ts, vs, is, os with
    | [.Name x _, .Name y _], [_, _], [i, j], [_, _] => decide (ns = [x, y]) && decide (C.N[i]? = some x) && decide (C.N[j]? = some y) && decide (i ≠ j) && decide (sc.names.lookup x = some .local) && decide (sc.names.lookup y = some .local)
    | [.Name x _, .Name y _, .Name z _], [_, _, _], [i, j, k], [_, _, _] => decide (ns = [x, y, z]) && decide (C.N[i]? = some x) && decide (C.N[j]? = some y) && decide (C.N[k]? = some z) && decide (i ≠ j) && decide (i ≠ k) && decide (j ≠ k) && decide (sc.names.lookup x = some .local) && decide (sc.names.lookup y = some .local) && decide (sc.names.lookup z = some .local)
    | _, _, _, _ => false)
  | none => false
/-- what needs no calm context -/
def MX.cst (fl : Fls) : MX → Bool
  | .int _ => true
  | .str _ => true
  | .bl _ => true
  | .non => true
  | .glb _ => true
  | .lst .nil => true
  | .var i => decide (fl[i]? ≠ some true)
  | _ => false
/-- the suite of a clause: one plain statement -/
def MS.sui (C : Ck) (sc : Scope) (fl : Fls) : MS → List Stmt → Option (Option Fls)
  | .set i a, [.Assign [.Name x _] e _] => if storeB C sc i x && a.cst fl && a.chk C sc fl e then some (some (fl.set i false)) else none
  | .ret a, [.Return (some e) _] => if a.cst fl && a.chk C sc fl e then some none else none
  | .pass, [.Pass _] => some (some fl)
  | _, _ => none
def clsB (C : Ck) (sc : Scope) : List Nat → Expr → Bool
  | [t], .Name x _ => decide (C.tg t = some x) && glB sc x
  | [t, u], .Tuple [.Name x _, .Name y _] _ _ => decide (C.tg t = some x) && glB sc x && decide (C.tg u = some y) && glB sc y
  | _, _ => false
def One.chk (C : Ck) (sc : Scope) (fl : Fls) (a : MX) : One → Stmt → Bool
  | .expr, .Expr e _ => a.chk C sc fl e && a.notP fl && noComp e
  | .set i, .Assign [.Name x _] e _ => a.chk C sc fl e && a.notP fl && noComp e && storeB C sc i x
  | .ret, .Return (some e) _ => a.chk C sc fl e && a.notP fl
  | _, _ => false
def nmB (C : Ck) (sc : Scope) (fl : Fls) : Option Nat → Option Str → Bool
  | none, none => true
  | some i, some x => decide (C.N[i]? = some x) && decide (sc.names.lookup x = some .local) && decide (fl[i]? ≠ some true)
  | _, _ => false
def setChk (C : Ck) (sc : Scope) (fl : Fls) (i : Nat) (a : MX) (x : Str) (px : Pos) (e : Expr) : Option Fls :=
  if storeB C sc i x && a.chk C sc fl e then
    if noComp e then (if decide (a.md fl = .O) && decide (i < fl.length) then some (fl.set i true) else if a.notP fl then some (fl.set i false) else none)
    else (match a, e with
      | .comp _ _ _ _ _, .ListComp _ [⟨_, _, _, 0⟩] scope p => if decide (sc.names.lookup x = some .local) && (px.line == p.line) && !(scope.names.any fun (n, k) => n == x && (k == .local || k == .cell)) && decide (i < fl.length) then some (fl.set i true) else none
      | _, _ => none)
  else none
def asgsB (sc : Scope) (xs : List Expr) : Expr → Bool
  | .Tuple vs _ _ => decide (swB sc xs vs = some none)
  | _ => true
mutual
def MS.chkS (C : Ck) (sc : Scope) (flb : Fls) : MS → Fls → Stmt → Option (Option Fls)
  | .pass, fl, e' => match e' with
    | .Pass _ => some (some fl)
    | _ => none
  | .brk, fl, e' => match e' with
    | .Break _ => if downB fl flb then some none else none
    | _ => none
  | .cont, fl, e' => match e' with
    | .Continue _ => if downB fl flb then some none else none
    | _ => none
  | .retN, _, e' => match e' with
    | .Return none _ => some none
    | _ => none
  | .ret a, fl, e' => match e' with
    | .Return (some e) _ => if a.chk C sc fl e && a.notP fl then some none else none
    | _ => none
  | .set i a, fl, e' => match e' with
    | .Assign [.Name x px] e _ => (setChk C sc fl i a x px e).map some
    | _ => none
  | .par is os es, fl, e' => match e' with
    | .Assign [.Tuple ts _ _] (.Tuple vs _ _) _ => if es.chk C sc fl vs && parOk fl os es && decide (is.length = os.length) && (is.all fun i => decide (i < fl.length)) && parChk C sc fl is os ts vs then some (some (setMs (is.zip os) fl)) else none
    | _ => none
  | .asg t a, fl, e' => match e' with
    | .Assign [.Subscript (.Name x p) y q] e _ => if a.chk C sc fl e && a.notP fl && noComp e then (t.chk C sc fl (.Subscript (.Name x p) y q)).map some else none
    | _ => none
  | .asgs ts a, fl, e' => match e' with
    | .Assign [.Tuple xs _ _] e _ => if a.chk C sc fl e && a.notP fl && noComp e && asgsB sc xs e then (chkAll C sc fl ts xs).map some else none
    | _ => none
  | .app i a, fl, e' => match e' with
    | .Expr (.Call (.Attribute (.Name x _) m p2) [e] [] p3) _ => if decide (m = ("append" : Str)) && slotB C sc i x && decide (fl[i]? = some true) && a.chk C sc fl e && a.notP fl && (p2.endLine == p3.line) then some (some fl) else none
    | _ => none
  | .expr a, fl, e' => match e' with
    | .Expr e _ => if a.chk C sc fl e && noComp e then some (some fl) else none
    | _ => none
  | .nil, _, _ => none
  | .cons _ _, _, _ => none
  | .ifs t a b, fl, e' => match e' with
    | .If e b1 b2 _ => if t.chk C sc fl e then (match a.chkB C sc flb fl b1, b.chkB C sc flb fl b2 with
      | some none, some r => some r
      | some r, some none => some r
      | some (some f), some (some g) => if downB f (meetF f g) && downB g (meetF f g) then some (some (meetF f g)) else none
      | _, _ => none) else none
    | _ => none
  | .for_ T it b, fl, e' => match e' with
    | .For tg iter body [] _ => if it.chk C sc fl iter && it.tgOk tg && T.chk C sc tg then (match b.chkB C sc fl (T.fl fl) body with
      | some none => some (some fl)
      | some (some f) => if downB f fl then some (some fl) else none
      | none => none) else none
    | _ => none
  | .whl _ t b, fl, e' => match e' with
    | .While e body [] _ => if t.chk C sc fl e then (match b.chkB C sc fl fl body with
      | some none => some (some fl)
      | some (some f) => if downB f fl then some (some fl) else none
      | none => none) else none
    | _ => none
  | .raise_ k a, fl, e' => match e' with
    | .Raise (some (.Call (.Name x _) [e] [] _)) none _ => if decide (C.ex k = some x) && glB sc x && a.chk C sc fl e && a.notP fl then some none else none
    | _ => none
  | .raiseT k, _, e' => match e' with
    | .Raise (some (.Call (.Name x _) [.Constant (.str _) _ _] [] _)) none _ => if decide (C.ex0 k = some x) && glB sc x then some none else none
    | _ => none
  | .try_ cl nm o a s, fl, e' => match e' with
    | .Try [st] [.ExceptHandler (some t) n body _] [] [] _ => if clsB C sc cl t && nmB C sc fl nm n && o.chk C sc fl a st then (match s.sui C sc fl body with
      | some none => (match o with | .ret => some none | o => some (some (o.fl fl)))
      | some (some f) => (match o with | .ret => some (some f) | o => if decide (f = o.fl fl) then some (some f) else none)
      | none => none) else none
    | _ => none
  | .drop l a, fl, e' => a.chkS C sc flb (drops' l fl) e'
def MS.chkB (C : Ck) (sc : Scope) (flb : Fls) : MS → Fls → List Stmt → Option (Option Fls)
  | .nil, fl, e' => match e' with
    | [] => some (some fl)
    | _ => none
  | .cons a b, fl, e' => match e' with
    | x :: xs => (match a.chkS C sc flb fl x with
      | some (some f) => b.chkB C sc flb f xs
      | some none => (match b, xs with | .nil, [] => some none | _, _ => none)
      | none => none)
    | _ => none
  | _, _, _ => none
end
end MW
end
section
set_option Elab.async false
set_option autoImplicit false
set_option maxRecDepth 100000
/-! MW32: what matches means what the evaluator says: expressions. -/
namespace MW
open PySem PySem.Spec PyProof.Rows L2

/-- a scope, and what it is within a block: free names may be cells -/
structure ScR (sc sc' : Scope) : Prop where
  loc : ∀ x, sc.names.lookup x = some .local → sc'.names.lookup x = some .local
  cel : ∀ x, sc.names.lookup x = some .cell → sc'.names.lookup x = some .cell
  glo : ∀ x, sc.names.lookup x = some .globalImplicit → sc'.names.lookup x = some .globalImplicit
  fre : ∀ x, sc.names.lookup x = some .free → sc'.names.lookup x = some .cell ∨ sc'.names.lookup x = some .free
theorem ScR.refl (sc : Scope) : ScR sc sc := ⟨fun _ h => h, fun _ h => h, fun _ h => h, fun _ h => .inr h⟩
theorem relabel_free {env : PySem.Env} : ∀ {names : List (Str × NameKind)} {x : Str}, names.lookup x = some .free →
    (names.map fun (n, k) => if (k == NameKind.free && env.scope.kind == .function && env.kindOf n == some .cell) then (n, NameKind.cell) else (n, k)).lookup x = some .cell ∨
    (names.map fun (n, k) => if (k == NameKind.free && env.scope.kind == .function && env.kindOf n == some .cell) then (n, NameKind.cell) else (n, k)).lookup x = some .free
  | [], _, h => by simp at h
  | (n, k) :: r, x, h => by
    rw [List.map_cons]
    dsimp only
    cases hx : x == n with
    | true =>
      simp only [List.lookup_cons, hx] at h
      cases h
      by_cases hc : (NameKind.free == NameKind.free && env.scope.kind == .function && env.kindOf n == some .cell) = true
      · rw [if_pos hc, List.lookup_cons, hx]; exact .inl rfl
      · rw [if_neg hc, List.lookup_cons, hx]; exact .inr rfl
    | false =>
      simp only [List.lookup_cons, hx] at h
      have ih := @relabel_free env r x h
      by_cases hc : (k == NameKind.free && env.scope.kind == .function && env.kindOf n == some .cell) = true
      · rw [if_pos hc, List.lookup_cons, hx]; exact ih
      · rw [if_neg hc, List.lookup_cons, hx]; exact ih
theorem scR_relabel (scope : Scope) (env : PySem.Env) : ScR scope (relabel scope env) :=
  ⟨fun _ h => lookup_relabel_local h, fun _ h => oc_lookup_relabel rfl h, fun _ h => oc_lookup_relabel rfl h, fun _ h => relabel_free h⟩
structure Gd (B : Tb) (C : Ck) (sc : Scope) (c : Ct) : Prop where
  ok : c.Ok
  hN : c.X.N = C.N
  hsc : ScR sc c.X.env.scope
  fnl : ∀ x, sc.names.lookup x = some .cell → c.X.fn x = true
  fns : ∀ f x, C.fn f = some x → FnOf c x (B.fn f)
  gls : ∀ k x, C.gl k = some x → (∃ u v, c.X.mg x = some u ∧ RelV v u ∧ ∀ G am, Rp c.P G am v (B.gl k)) ∧ (x == ("__debug__" : Str)) = false
  blt : ∀ b : Bt, c.X.mg b.name = none
  tys : ∀ t : Ty, c.X.mg (Str.ofString t.py) = none
  isi : c.X.mg "isinstance" = none
  rng : c.X.mg "range" = none
  lst : c.X.mg "list" = none
  enu : c.X.mg "enumerate" = none
  exo : ExOk c
  exn : ∀ k C' m, c.P.exc k = some (C', m) → m = B.enm k
  mks : ∀ k x, C.ex k = some x → ExcI c x k
  mkt : ∀ k x, C.ex0 k = some x → ExcT c x k
  tgt : ∀ t x, C.tg t = some x → ∃ cv, ((c.X.mg x = some cv ∧ ∃ a, cv = .ref a) ∨ (c.X.mg x = none ∧ bootBuiltins x = some cv ∧ x ≠ "__name__" ∧ ∃ T, cv = .type T)) ∧ (x == ("__debug__" : Str)) = false ∧ ∀ k C' n b, c.P.exc k = some (C', n) → B.isx t k = some b → PySem.W.kitOne c.X.K (.ref C') cv = some b ∧ PySem.W.exmOne c.X.K (.ref C') cv = some b
theorem Gd.blk {B : Tb} {C : Ck} {sc : Scope} {c : Ct} (G : Gd B C sc c) (scope : Scope) (s : Shared) (H : Hp) (A : Addr) (cl : List (Str × Addr)) (fp : List Addr) : Gd B C scope (c.blk (c.X.blk s H scope (compEnvC scope cl A c.X.env) fp)) where
  ok := ⟨G.ok.hK, G.ok.calm, G.ok.nd, G.ok.hu, G.ok.hgd, takes0, G.ok.sm⟩
  hN := G.hN
  hsc := scR_relabel _ _
  fnl := fun x h => by
    show (scope.names.lookup x == some .cell) = true
    rw [h]; rfl
  fns := fun f x h => ⟨(G.fns f x h).ex, (G.fns f x h).dbg⟩
  gls := G.gls
  blt := G.blt
  tys := G.tys
  isi := G.isi
  rng := G.rng
  lst := G.lst
  enu := G.enu
  exo := ⟨G.exo.ok⟩
  exn := G.exn
  mks := fun k x h => ⟨(G.mks k x h).ex, (G.mks k x h).dbg⟩
  mkt := fun k x h => ⟨(G.mkt k x h).ex, (G.mkt k x h).dbg⟩
  tgt := G.tgt

section
variable {B : Tb} {C : Ck} {sc : Scope} {c : Ct} {fl : Fls} {i : Nat} {x : Str}
theorem vis_of (G : Gd B C sc c) (h : visB sc x = true) : Vis c.X.env.scope x := by
  unfold visB at h
  unfold Vis
  split at h
  · exact .inl (G.hsc.loc _ (by assumption))
  · exact .inr (.inl (G.hsc.cel _ (by assumption)))
  · exact .inr (G.hsc.fre _ (by assumption))
  · cases h
theorem loc_of (G : Gd B C sc c) (h : locB sc x = true) : L2.Loc c.X.env.scope x ∧ (c.X.fn x = true ∨ c.X.env.scope.names.lookup x = some .local) := by
  unfold locB at h
  unfold L2.Loc
  split at h
  · exact ⟨.inl (G.hsc.loc _ (by assumption)), .inr (G.hsc.loc _ (by assumption))⟩
  · exact ⟨.inr (G.hsc.cel _ (by assumption)), .inl (G.fnl x (by assumption))⟩
  · cases h
theorem gl_of (G : Gd B C sc c) (h : glB sc x = true) : Gl c.X x := by
  unfold Gl
  show c.X.env.scope.names.lookup x = _
  unfold glB at h
  split at h
  · exact G.hsc.glo _ (by assumption)
  · cases h
theorem blk_of (G : Gd B C sc c) {scope : Scope} {own : List (Str × Nat)} (h : blkC C.N sc scope own = true) : BlkOk c.X.N c.X.env.scope scope own := by
  have b := blkOk_by h
  refine ⟨b.kind, b.uniq, G.hN ▸ b.ix, fun y hy e => ?_, G.hN ▸ b.own⟩
  rcases b.free y hy e with h | h
  · exact .inl (G.hsc.cel _ h)
  · exact G.hsc.fre _ h
theorem slot_of (G : Gd B C sc c) (h : slotB C sc i x = true) : c.X.N[i]? = some x ∧ Vis c.X.env.scope x ∧ (x == ("__debug__" : Str)) = false ∧ (x == ("__classdict__" : Str)) = false := by
  unfold slotB at h
  simp only [Bool.and_eq_true, decide_eq_true_eq, Bool.not_eq_true'] at h
  exact ⟨by rw [G.hN]; exact h.1.1.1, vis_of G h.1.1.2, h.1.2, h.2⟩
theorem store_of (G : Gd B C sc c) (h : storeB C sc i x = true) : c.X.N[i]? = some x ∧ L2.Loc c.X.env.scope x ∧ (c.X.fn x = true ∨ c.X.env.scope.names.lookup x = some .local) := by
  unfold storeB at h
  simp only [Bool.and_eq_true, decide_eq_true_eq] at h
  exact ⟨by rw [G.hN]; exact h.1, loc_of G h.2⟩
theorem names_jgs (G : Gd B C sc c) : ∀ {l : List Nat} {es : List Expr}, namesB C sc l es = true → JGs c es l
  | [], [], _ => jgs_nil
  | i :: l, .Name x p :: es, h => by
    have h' : (storeB C sc i x && namesB C sc l es) = true := h
    rw [Bool.and_eq_true] at h'
    obtain ⟨h1, h2, h3⟩ := store_of G h'.1
    exact jgs_cons G.ok.nd h1 h2 h3 (names_jgs G h'.2)
theorem names_jn (G : Gd B C sc c) : ∀ {l : List Nat} {es : List Expr}, namesB C sc l es = true → JN c es l
  | [], [], _ => jn_nil
  | i :: l, .Name x p :: es, h => by
    have h' : (storeB C sc i x && namesB C sc l es) = true := h
    rw [Bool.and_eq_true] at h'
    obtain ⟨h1, h2, h3⟩ := store_of G h'.1
    exact jn_cons G.ok h1 h2 h3 (names_jn G h'.2)
theorem Tg.snd (G : Gd B C sc c) {T : Tg} {e : Expr} (h : T.chk C sc e = true) : JG c fl e T := by
  unfold Tg.chk at h
  split at h
  · obtain ⟨h1, h2, h3⟩ := store_of G h
    exact jg_one G.ok.nd h1 h2 h3
  · have J := names_jn G h
    exact jg_tup G.ok (names_jgs G h) J.len J.pl
  · cases h
end

/-- towards a mode: a new list may be taken as frozen -/
theorem JX.toF' {c : Ct} {fl : Fls} {e : Expr} {md : Md} {f : En → M D} (h : JX c fl e md f) (n : md ≠ .P) : JX c fl e .F f := by
  cases md with
  | F => exact h
  | O => exact h.toF
  | P => exact absurd rfl n
theorem notP_of {a : MX} {fl : Fls} (h : a.notP fl = true) : a.md fl ≠ .P := of_decide_eq_true h
theorem jx_glb {c : Ct} {fl : Fls} {x : Str} {p : Pos} {d : D} (hg : Gl c.X x) (h : ∃ u v, c.X.mg x = some u ∧ RelV v u ∧ ∀ G am, Rp c.P G am v d) (hd : (x == ("__debug__" : Str)) = false) : JX c fl (.Name x p) .F fun _ => M.pure d := by
  obtain ⟨u, v, hm, r, hr⟩ := h
  exact ⟨(pe_glob hg hm r hd).imp fun _ _ _ ⟨_, _, S, r⟩ => r.pure S.lay _ (hr _ _), rfl⟩
theorem blt_bt (b : Bt) (x : Str) (h : x = b.name) : x ≠ "__name__" ∧ (x == ("__debug__" : Str)) = false := by
  subst h; cases b <;> decide +kernel
theorem jx_bad {c : Ct} {fl : Fls} {p : Pos} {a e : Expr} : JX c fl (.Compare a [.NotEq] [e] p) .F fun _ => M.bad := ⟨⟨fun _ _ _ _ _ _ ⟨_, _, _, r⟩ => r.elim⟩, rfl⟩
theorem jt_bad {c : Ct} {fl : Fls} {e : Expr} : JT c fl e fun _ => M.bad := ⟨⟨fun _ _ _ _ _ _ ⟨_, _, _, r⟩ => r.elim⟩⟩
theorem jx_blt {B : Tb} {C : Ck} {sc : Scope} {c : Ct} {fl : Fls} {x : Str} {p pos : Pos} {e : Expr} {es : List Expr} {fs : En → M (List D)} (G : Gd B C sc c) (b : Bt) (hx : x = b.name) (hg : glB sc x = true) (h : (e :: es).all okHead = true) (ha : JL c fl (e :: es) fs) :
    JX c fl (.Call (.Name x p) (e :: es) [] pos) .O fun ρ => M.bind (fs ρ) fun ds => M.opt (b.run ds) := by
  have hm := G.blt b
  have g := gl_of G hg
  obtain ⟨h1, h2⟩ := blt_bt b x hx
  subst hx
  cases b with
  | len => exact jx_callB (call_lenM G.ok) g hm (by decide +kernel) h1 h2 h ha
  | int => exact jx_callT call_intM g hm (by decide +kernel) h1 h2 h ha
  | max => exact jx_callB (call_maxM G.ok) g hm (by decide +kernel) h1 h2 h ha
  | min => exact jx_callB (call_minM G.ok) g hm (by decide +kernel) h1 h2 h ha
  | sum => exact jx_callB (call_sumM G.ok) g hm (by decide +kernel) h1 h2 h ha
  | all => exact jx_callB (call_allM G.ok) g hm (by decide +kernel) h1 h2 h ha
  | any => exact jx_callB (call_anyM G.ok) g hm (by decide +kernel) h1 h2 h ha
  | tuple => exact jx_callT (call_tupleM G.ok) g hm (by decide +kernel) h1 h2 h ha
  | repr => exact jx_callB (call_reprM G.ok) g hm (by decide +kernel) h1 h2 h ha
  | sorted => exact jx_callB (call_sortedM G.ok) g hm (by decide +kernel) h1 h2 h ha
/-- a class that is asked for -/
theorem tgt_of {B : Tb} {C : Ck} {sc : Scope} {c : Ct} (G : Gd B C sc c) {t : Nat} {x : Str} (h : C.tg t = some x) (hg : glB sc x = true) :
    ∃ cv w, Names c.X x cv ∧ (∀ p, PE c.X (.Name x p) (tC w)) ∧ (∀ u, RelV w u → u = cv) ∧ ∀ k C' n b, c.P.exc k = some (C', n) → B.isx t k = some b → PySem.W.kitOne c.X.K (.ref C') cv = some b ∧ PySem.W.exmOne c.X.K (.ref C') cv = some b := by
  obtain ⟨cv, h1, h2, h3⟩ := G.tgt t x h
  have g := gl_of G hg
  rcases h1 with ⟨h1, a, rfl⟩ | ⟨h1, h4, h5, T, rfl⟩
  · exact ⟨_, .ref a, ⟨g, h2, .inl h1⟩, fun p => pe_glob g h1 rfl h2, fun u r => r, h3⟩
  · exact ⟨_, .ty T, ⟨g, h2, .inr ⟨h1, h4, h5⟩⟩, fun p => pe_bltn g h1 h4 rfl h5 h2, fun u r => r, h3⟩
theorem kitAny2 {K : PySem.W.Frag} {t c d : Value} {a b : Bool} (h1 : PySem.W.kitOne K t c = some a) (h2 : PySem.W.kitOne K t d = some b) : PySem.W.kitAny K t [c, d] = some (a || b) := by
  unfold PySem.W.kitAny
  rw [h1]
  cases a with
  | true => rfl
  | false =>
    unfold PySem.W.kitAny
    rw [h2]
    cases b <;> rfl
theorem exmAny2 {K : PySem.W.Frag} {t c d : Value} {a b : Bool} (h1 : PySem.W.exmOne K t c = some a) (h2 : PySem.W.exmOne K t d = some b) : PySem.W.exmAny K t [c, d] = some (a || b) := by
  simp only [PySem.W.exmAny, h1, h2]
  cases a <;> cases b <;> rfl
theorem exmAny1 {K : PySem.W.Frag} {t c : Value} {a : Bool} (h1 : PySem.W.exmOne K t c = some a) : PySem.W.exmAny K t [c] = some a := by
  simp only [PySem.W.exmAny, h1]
  cases a <;> rfl
theorem ty_boot (t : Ty) : bootBuiltins (Str.ofString t.py) = some (.type t.py) ∧ Str.ofString t.py ≠ "__name__" ∧ (Str.ofString t.py == ("__debug__" : Str)) = false := by
  cases t <;> refine ⟨by decide +kernel, by decide +kernel, by decide +kernel⟩
end MW
end
section
set_option Elab.async false
set_option autoImplicit false
set_option maxRecDepth 100000
set_option maxHeartbeats 0
/-! MW33: what matches means what the evaluator says: expressions. -/
namespace MW
open PySem PySem.Spec PyProof.Rows L2

theorem chk_head {C : Ck} {sc : Scope} {fl : Fls} {a : MX} {e : Expr} (h : a.chk C sc fl e = true) : okHead e = true := by
  unfold MX.chk at h
  cases e <;> first | rfl | (exfalso; revert h; cases a <;> simp)
theorem chks_head {C : Ck} {sc : Scope} {fl : Fls} : ∀ {es : MXs} {xs : List Expr}, es.chk C sc fl xs = true → xs.all okHead = true
  | .nil, [], _ => rfl
  | .nil, _ :: _, h => by unfold MXs.chk at h; cases h
  | .cons a es, [], h => by unfold MXs.chk at h; cases h
  | .cons a es, x :: xs, h => by
    unfold MXs.chk at h
    simp only [Bool.and_eq_true] at h
    simp only [List.all_cons, Bool.and_eq_true]
    exact ⟨chk_head h.1, chks_head h.2⟩
theorem JX.cg {c : Ct} {fl : Fls} {e : Expr} {md md' : Md} {f g : En → M D} (h : JX c fl e md f) (E : ∀ ρ, g ρ = f ρ) (m : md' = md) : JX c fl e md' g := by
  have : g = f := funext E
  rw [this, m]; exact h
theorem JT.cg {c : Ct} {fl : Fls} {e : Expr} {f g : En → M Bool} (h : JT c fl e f) (E : ∀ ρ, g ρ = f ρ) : JT c fl e g := by
  have : g = f := funext E
  rw [this]; exact h
theorem JW.cg {c : Ct} {fl : Fls} {e : Expr} {f g : En → M Bool} (h : JW c fl e f) (E : ∀ ρ, g ρ = f ρ) : JW c fl e g := by
  have : g = f := funext E
  rw [this]; exact h
theorem JL.cg {c : Ct} {fl : Fls} {e : List Expr} {f g : En → M (List D)} (h : JL c fl e f) (E : ∀ ρ, g ρ = f ρ) : JL c fl e g := by
  have : g = f := funext E
  rw [this]; exact h
theorem JA.cg {c : Ct} {fl : Fls} {e : List Expr} {f g : En → M (List D)} (h : JA c fl e f) (E : ∀ ρ, g ρ = f ρ) : JA c fl e g := by
  have : g = f := funext E
  rw [this]; exact h
theorem JO.cg {c : Ct} {fl : Fls} {e : Option Expr} {f g : En → M (Option Int)} (h : JO c fl e f) (E : ∀ ρ, g ρ = f ρ) : JO c fl e g := by
  have : g = f := funext E
  rw [this]; exact h
theorem JI.cg {c : Ct} {fl : Fls} {tg e : Expr} {f g : En → M (List D)} (h : JI c fl tg e f) (E : ∀ ρ, g ρ = f ρ) : JI c fl tg e g := by
  have : g = f := funext E
  rw [this]; exact h
/-- a test, also as a part of and, or -/
def JTW (c : Ct) (fl : Fls) (e : Expr) (f : En → M Bool) : Prop := JT c fl e f ∧ ∀ op es pos, e = .BoolOp op es pos → JW c fl e f
theorem JTW.of {c : Ct} {fl : Fls} {e : Expr} {f : En → M Bool} (h : JT c fl e f) (n : ∀ op es pos, e ≠ .BoolOp op es pos) : JTW c fl e f := ⟨h, fun op es pos q => absurd q (n op es pos)⟩
theorem JTW.w {c : Ct} {fl : Fls} {e : Expr} {f : En → M Bool} (h : JW c fl e f) : JTW c fl e f := ⟨h.jt, fun _ _ _ _ => h⟩
theorem mi_head {C : Ck} {sc : Scope} {fl : Fls} {a : MI} {e : Expr} (h : a.chk C sc fl e = true) : okHead e = true := by
  cases a with
  | seq a => unfold MI.chk at h; simp only [Bool.and_eq_true] at h; exact chk_head h.1
  | r1 es => unfold MI.chk at h; cases e <;> first | rfl | (exfalso; revert h; simp)
  | r2 es => unfold MI.chk at h; cases e <;> first | rfl | (exfalso; revert h; simp)
  | pairs es => unfold MI.chk at h; cases e <;> first | rfl | (exfalso; revert h; simp)

mutual
theorem MX.snd {B : Tb} {C : Ck} {sc : Scope} {c : Ct} {fl : Fls} (G : Gd B C sc c) : ∀ {a : MX} {e : Expr}, a.chk C sc fl e = true → JX c fl e (a.md fl) (a.ev B)
  | .var i, e, h => by
    unfold MX.chk at h; split at h
    · obtain ⟨h1, h2, h3, h4⟩ := slot_of G h
      by_cases q : fl[i]? = some true
      · exact (jx_varP h1 h2 h3 h4).cg (fun ρ => by rw [MX.ev]) (by rw [MX.md, if_pos q])
      · exact (jx_varF h1 h2 h3 h4 q).cg (fun ρ => by rw [MX.ev]) (by rw [MX.md, if_neg q])
    · cases h
  | .int i, e, h => by
    unfold MX.chk at h; split at h
    · have e := of_decide_eq_true h
      subst e
      exact jx_int.cg (fun ρ => by rw [MX.ev]) rfl
    · cases h
  | .str i, e, h => by
    unfold MX.chk at h; split at h
    · have e := of_decide_eq_true h
      subst e
      exact jx_str.cg (fun ρ => by rw [MX.ev]) rfl
    · cases h
  | .bl i, e, h => by
    unfold MX.chk at h; split at h
    · have e := of_decide_eq_true h
      subst e
      exact jx_bl.cg (fun ρ => by rw [MX.ev]) rfl
    · cases h
  | .non, e, h => by
    unfold MX.chk at h; split at h
    · exact jx_non.cg (fun ρ => by rw [MX.ev]) rfl
    · cases h
  | .glb k, e, h => by
    unfold MX.chk at h; split at h
    · simp only [Bool.and_eq_true, decide_eq_true_eq] at h
      exact (jx_glb (gl_of G h.2) (G.gls _ _ h.1).1 (G.gls _ _ h.1).2).cg (fun ρ => by rw [MX.ev]) rfl
    · cases h
  | .bin o a b, e, h => by
    unfold MX.chk at h; split at h
    · simp only [Bool.and_eq_true, decide_eq_true_eq] at h
      obtain ⟨⟨rfl, h1⟩, h2⟩ := h
      exact (jx_bin G.ok o (MX.snd G h1) (MX.snd G h2)).cg (fun ρ => by rw [MX.ev]) rfl
    · cases h
  | .cmp o a b, e, h => by
    unfold MX.chk at h; split at h
    · simp only [Bool.and_eq_true, decide_eq_true_eq] at h
      obtain ⟨⟨rfl, h1⟩, h2⟩ := h
      exact (jx_cmp G.ok o (MX.snd G h1) (MX.snd G h2)).cg (fun ρ => by rw [MX.ev]) rfl
    · cases h
  | .chain o o' a b t, e, h => by
    unfold MX.chk at h; split at h
    · simp only [Bool.and_eq_true, decide_eq_true_eq] at h
      obtain ⟨⟨⟨⟨rfl, rfl⟩, h1⟩, h2⟩, h3⟩ := h
      exact (jx_chain G.ok o o' (MX.snd G h1) (MX.snd G h2) (MX.snd G h3)).cg (fun ρ => by rw [MX.ev]) rfl
    · cases h
  | .and a b, e, h => by
    unfold MX.chk at h; split at h
    · simp only [Bool.and_eq_true] at h
      obtain ⟨h1, h2⟩ := h
      split at h2
      · exact (jx_and (MX.snd G h1) (jx_one (MX.snd G h2))).cg (fun ρ => by rw [MX.ev]) rfl
      · exact (jx_and (MX.snd G h1) (MX.snd G h2)).cg (fun ρ => by rw [MX.ev]) rfl
    · cases h
  | .or a b, e, h => by
    unfold MX.chk at h; split at h
    · simp only [Bool.and_eq_true] at h
      obtain ⟨h1, h2⟩ := h
      split at h2
      · exact (jx_or (MX.snd G h1) (jx_one (MX.snd G h2))).cg (fun ρ => by rw [MX.ev]) rfl
      · exact (jx_or (MX.snd G h1) (MX.snd G h2)).cg (fun ρ => by rw [MX.ev]) rfl
    · cases h
  | .not a, e, h => by
    unfold MX.chk at h; split at h
    · exact (jx_not (MX.snd G h)).cg (fun ρ => by rw [MX.ev]) rfl
    · cases h
  | .neg a, e, h => by
    unfold MX.chk at h; split at h
    · exact (jx_neg (MX.snd G h)).cg (fun ρ => by rw [MX.ev]) rfl
    · cases h
  | .isN a, e, h => by
    unfold MX.chk at h; split at h
    · exact (jx_isN (MX.snd G h)).cg (fun ρ => by rw [MX.ev]) rfl
    · cases h
  | .notN a, e, h => by
    unfold MX.chk at h; split at h
    · exact (jx_notN (MX.snd G h)).cg (fun ρ => by rw [MX.ev]) rfl
    · cases h
  | .ite t a b, e, h => by
    unfold MX.chk at h; split at h
    · simp only [Bool.and_eq_true] at h
      obtain ⟨⟨⟨⟨h1, h2⟩, h3⟩, h4⟩, h5⟩ := h
      have ja := MX.snd G h2
      have jb := MX.snd G h3
      have jt := (MX.sndT G h1).1
      by_cases q : a.md fl = .O ∧ b.md fl = .O
      · refine (jx_ite jt (q.1 ▸ ja) (q.2 ▸ jb)).cg (fun ρ => by rw [MX.ev]) ?_
        rw [MX.md, q.1, q.2]
      · refine (jx_ite jt (ja.toF' (notP_of h4)) (jb.toF' (notP_of h5))).cg (fun ρ => by rw [MX.ev]) ?_
        rw [MX.md]
        split
        · exact absurd ⟨by assumption, by assumption⟩ q
        · rfl
    · cases h
  | .tup es, e, h => by
    unfold MX.chk at h; split at h
    · simp only [Bool.and_eq_true] at h
      exact (jx_tup (MXs.sndA G h.1 h.2)).cg (fun ρ => by rw [MX.ev]) rfl
    · cases h
  | .lst es, e, h => by
    unfold MX.chk at h; split at h
    · simp only [Bool.and_eq_true] at h
      exact (jx_lst (MXs.sndA G h.1 h.2)).cg (fun ρ => by rw [MX.ev]) rfl
    · cases h
  | .dict0, e, h => by
    unfold MX.chk at h; split at h
    · exact jx_dict0.cg (fun ρ => by rw [MX.ev]) rfl
    · cases h
  | .ix a b, e, h => by
    unfold MX.chk at h; split at h
    · simp only [Bool.and_eq_true] at h
      exact (jx_ix G.ok (MX.snd G h.1) (MX.snd G h.2)).cg (fun ρ => by rw [MX.ev]) rfl
    · cases h
  | .sl a lo hi, e, h => by
    unfold MX.chk at h; split at h
    · simp only [Bool.and_eq_true] at h
      exact (jx_slice G.ok (MX.snd G h.1.1) (MO.snd G h.1.2) (MO.snd G h.2)).cg (fun ρ => by rw [MX.ev]) rfl
    · cases h
  | .call f es, e, h => by
    unfold MX.chk at h; split at h
    · simp only [Bool.and_eq_true, decide_eq_true_eq] at h
      obtain ⟨⟨⟨h1, h2⟩, h3⟩, h4⟩ := h
      exact (jx_call G.ok (G.fns _ _ h1) (gl_of G h2) (chks_head h3) (MXs.sndA G h3 h4)).cg (fun ρ => by rw [MX.ev]) rfl
    · cases h
  | .blt b es, e, h => by
    unfold MX.chk at h; split at h
    · simp only [Bool.and_eq_true, decide_eq_true_eq] at h
      obtain ⟨⟨h1, h2⟩, h3⟩ := h
      exact (jx_blt G b h1 h2 (chks_head h3) (MXs.snd G h3)).cg (fun ρ => by rw [MX.ev]) rfl
    · cases h
  | .isTy a t, e, h => by
    unfold MX.chk at h; split at h
    · simp only [Bool.and_eq_true, decide_eq_true_eq] at h
      obtain ⟨⟨⟨⟨rfl, h2⟩, h3⟩, rfl⟩, h5⟩ := h
      obtain ⟨b1, b2, b3⟩ := ty_boot t
      exact (jx_isTy G.ok t (gl_of G h2) G.isi (gl_of G h3) (G.tys t) b1 b2 b3 (MX.snd G h5)).cg (fun ρ => by rw [MX.ev]) rfl
    · cases h
  | .comp own T it t e, e', h => by
    unfold MX.chk at h; split at h
    · rename_i elt tg iter ifs scope pos
      simp only [Bool.and_eq_true, decide_eq_true_eq] at h
      obtain ⟨⟨⟨⟨⟨⟨⟨⟨h1, h0⟩, h2⟩, h3⟩, h4⟩, h5⟩, h6⟩, h7⟩, h8⟩ := h
      have hT : ∀ i ∈ T.slots, i ∈ (ownP C own).map (·.2) := fun i hi => by
        rw [h3]
        have := List.all_eq_true.mp h5 i hi
        simpa using this
      have q : JX c fl (.ListComp elt [⟨tg, iter, ifs, 0⟩] scope pos) .O (fComp ((ownP C own).map (·.2)) T (it.ev B) (t.tst B) (e.ev B)) := by
        refine jx_comp G.ok (MI.snd G h1 h0) (mi_head h1) (blk_of G h2) hT ⟨fun s H A cl fp => Tg.snd (G.blk _ _ _ _ _ _) h4, fun s H A cl fp => ?_, fun s H A cl fp => (MX.snd (G.blk _ _ _ _ _ _) h7).toF' (notP_of h8)⟩
        split at h6
        · split at h6
          · have z : MX.tst B (.bl true) = tYesM := funext fun ρ => by rw [MX.tst]; rfl
            rw [z]; exact jts_nil
          · cases h6
        · exact jts_one (MX.sndT (G.blk _ _ _ _ _ _) h6).1
        · cases h6
      rw [h3] at q
      exact q.cg (fun ρ => by rw [MX.ev]) rfl
    · cases h
  | .rev a, e, h => by
    unfold MX.chk at h; split at h
    · simp only [Bool.and_eq_true, decide_eq_true_eq] at h
      obtain ⟨rfl, h1⟩ := h
      exact (jx_rev G.ok (MX.snd G h1)).cg (fun ρ => by rw [MX.ev]) rfl
    · cases h
  | .call0 f, e, h => by
    unfold MX.chk at h; split at h
    · simp only [Bool.and_eq_true, decide_eq_true_eq] at h
      exact (jx_call0 G.ok (G.fns _ _ h.1) (gl_of G h.2)).cg (fun ρ => by rw [MX.ev]) rfl
    · cases h
  | .lrg a, e, h => by
    unfold MX.chk at h; split at h
    · simp only [Bool.and_eq_true, decide_eq_true_eq] at h
      obtain ⟨⟨⟨⟨rfl, h2⟩, rfl⟩, h4⟩, h5⟩ := h
      exact (jx_lrg1 G.ok (gl_of G h2) G.lst (gl_of G h4) G.rng (MX.snd G h5)).cg (fun ρ => by rw [MX.ev]) rfl
    · cases h
  | .dget a k, e, h => by
    unfold MX.chk at h; split at h
    · simp only [Bool.and_eq_true, decide_eq_true_eq] at h
      obtain ⟨rfl, h1⟩ := h
      exact (jx_dget G.ok (MX.snd G h1)).cg (fun ρ => by rw [MX.ev]) rfl
    · cases h
  | .glen a, e, h => by
    unfold MX.chk at h; split at h
    · simp only [Bool.and_eq_true, decide_eq_true_eq] at h
      obtain ⟨⟨rfl, h1⟩, h2⟩ := h
      exact (jx_glen G.ok (gl_of G h1) (G.blt .len) (MX.snd G h2)).cg (fun ρ => by rw [MX.ev]) rfl
    · cases h
  | .gix a b, e, h => by
    unfold MX.chk at h; split at h
    · simp only [Bool.and_eq_true] at h
      exact (jx_gix G.ok (MX.snd G h.1) (MX.snd G h.2)).cg (fun ρ => by rw [MX.ev]) rfl
    · cases h
  | .gne a, e, h => by
    unfold MX.chk at h; split at h
    · exact jx_bad.cg (fun ρ => by rw [MX.ev]) rfl
    · cases h
  | .mkDraw a b t, e, h => by
    unfold MX.chk at h; split at h
    · simp only [Bool.and_eq_true, decide_eq_true_eq] at h
      obtain ⟨⟨⟨⟨⟨⟨rfl, rfl⟩, rfl⟩, h1⟩, h2⟩, h3⟩, h4⟩ := h
      have j2 := MX.snd G h2
      rw [h4] at j2
      exact (jx_mkdraw (MX.snd G h1) j2 (MX.snd G h3)).cg (fun ρ => by rw [MX.ev]) rfl
    · cases h
  | .exA a n, e, h => by
    unfold MX.chk at h; split at h
    · simp only [Bool.and_eq_true, decide_eq_true_eq] at h
      obtain ⟨rfl, h1⟩ := h
      exact (jx_exAttr G.exo G.exn (MX.snd G h1) rfl).cg (fun ρ => by rw [MX.ev]) rfl
    · simp only [Bool.and_eq_true, decide_eq_true_eq] at h
      obtain ⟨rfl, h1⟩ := h
      exact (jx_exAttr G.exo G.exn (MX.snd G h1) rfl).cg (fun ρ => by rw [MX.ev]) rfl
    · simp only [Bool.and_eq_true, decide_eq_true_eq] at h
      obtain ⟨rfl, h1⟩ := h
      exact (jx_exAttr G.exo G.exn (MX.snd G h1) rfl).cg (fun ρ => by rw [MX.ev]) rfl
    · cases h
  | .isE a t, e, h => by
    unfold MX.chk at h; split at h
    · simp only [Bool.and_eq_true, decide_eq_true_eq] at h
      obtain ⟨⟨⟨⟨rfl, h2⟩, h3⟩, h4⟩, h5⟩ := h
      obtain ⟨cv, w, q1, q2, q3, q4⟩ := tgt_of G h4 h3
      exact (jx_isE G.exo (gl_of G h2) G.isi ⟨w, q2 _, q3⟩ (fun k C' n b x y => (q4 k C' n b x y).1) (MX.snd G h5)).cg (fun ρ => by rw [MX.ev]) rfl
    · cases h
  | .isE2 a t u, e, h => by
    unfold MX.chk at h; split at h
    · simp only [Bool.and_eq_true, decide_eq_true_eq] at h
      obtain ⟨⟨⟨⟨⟨⟨rfl, h2⟩, h3⟩, h3'⟩, h4⟩, h4'⟩, h5⟩ := h
      obtain ⟨cv, w, q1, q2, q3, q4⟩ := tgt_of G h4 h3
      obtain ⟨cv', w', q1', q2', q3', q4'⟩ := tgt_of G h4' h3'
      exact (jx_isE2 (is := B.isx2 t u) G.exo (gl_of G h2) G.isi (q2 _) q3 (q2' _) q3' (fun k C' n b x y => by
        unfold Tb.isx2 at y
        split at y
        · rename_i a1 b1 e1 e2
          cases y
          exact kitAny2 (q4 k C' n a1 x e1).1 (q4' k C' n b1 x e2).1
        · cases y) (MX.snd G h5)).cg (fun ρ => by rw [MX.ev]) rfl
    · cases h
  | .mkE k a, e, h => by
    unfold MX.chk at h; split at h
    · simp only [Bool.and_eq_true, decide_eq_true_eq] at h
      obtain ⟨⟨⟨h1, h2⟩, h3⟩, h4⟩ := h
      exact (jx_mkexc (G.mks _ _ h1) (gl_of G h2) ((MX.snd G h3).toF' (notP_of h4))).cg (fun ρ => by rw [MX.ev]) rfl
    · cases h
  | .mkT k, e, h => by
    unfold MX.chk at h; split at h
    · simp only [Bool.and_eq_true, decide_eq_true_eq] at h
      exact (jx_mkT (G.mkt _ _ h.1) (gl_of G h.2)).cg (fun ρ => by rw [MX.ev]) rfl
    · cases h
theorem MX.sndT {B : Tb} {C : Ck} {sc : Scope} {c : Ct} {fl : Fls} (G : Gd B C sc c) : ∀ {a : MX} {e : Expr}, a.chk C sc fl e = true → JTW c fl e (a.tst B)
  | .cmp o a b, e, h => by
    unfold MX.chk at h; split at h
    · simp only [Bool.and_eq_true, decide_eq_true_eq] at h
      obtain ⟨⟨rfl, h1⟩, h2⟩ := h
      exact .of ((jt_cmp G.ok o (MX.snd G h1) (MX.snd G h2)).cg fun ρ => by rw [MX.tst]) (by simp)
    · cases h
  | .chain o o' a b t, e, h => by
    unfold MX.chk at h; split at h
    · simp only [Bool.and_eq_true, decide_eq_true_eq] at h
      obtain ⟨⟨⟨⟨rfl, rfl⟩, h1⟩, h2⟩, h3⟩ := h
      exact .of ((jt_chain G.ok o o' (MX.snd G h1) (MX.snd G h2) (MX.snd G h3)).cg fun ρ => by rw [MX.tst]) (by simp)
    · cases h
  | .and a b, e, h => by
    unfold MX.chk at h; split at h
    · simp only [Bool.and_eq_true] at h
      obtain ⟨h1, h2⟩ := h
      split at h2
      · exact .w ((jw_and (MX.sndT G h1).1 (jw_and1 (MX.sndT G h2).1)).cg fun ρ => by rw [MX.tst])
      · exact .w ((jw_and (MX.sndT G h1).1 ((MX.sndT G h2).2 _ _ _ rfl)).cg fun ρ => by rw [MX.tst])
    · cases h
  | .or a b, e, h => by
    unfold MX.chk at h; split at h
    · simp only [Bool.and_eq_true] at h
      obtain ⟨h1, h2⟩ := h
      split at h2
      · exact .w ((jw_or (MX.sndT G h1).1 (jw_or1 (MX.sndT G h2).1)).cg fun ρ => by rw [MX.tst])
      · exact .w ((jw_or (MX.sndT G h1).1 ((MX.sndT G h2).2 _ _ _ rfl)).cg fun ρ => by rw [MX.tst])
    · cases h
  | .not a, e, h => by
    unfold MX.chk at h; split at h
    · exact .of ((jt_not (MX.sndT G h).1).cg fun ρ => by rw [MX.tst]) (by simp)
    · cases h
  | .isN a, e, h => by
    unfold MX.chk at h; split at h
    · exact .of ((jt_isN (MX.snd G h)).cg fun ρ => by rw [MX.tst]) (by simp)
    · cases h
  | .notN a, e, h => by
    unfold MX.chk at h; split at h
    · exact .of ((jt_notN (MX.snd G h)).cg fun ρ => by rw [MX.tst]) (by simp)
    · cases h
  | .bl true, e, h => by
    unfold MX.chk at h; split at h
    · have e := of_decide_eq_true h
      subst e
      exact .of ((jt_val G.ok jx_bl rfl).cg fun ρ => by rw [MX.tst]; rfl) (by simp)
    · cases h
  | .var i, e, h => by
    unfold MX.chk at h; split at h
    · obtain ⟨h1, h2, h3, h4⟩ := slot_of G h
      exact .of ((jt_val G.ok (jx_varP h1 h2 h3 h4) rfl).cg fun ρ => by rw [MX.tst]) (by simp)
    · cases h
  | .ix a b, e, h => by
    unfold MX.chk at h; split at h
    · simp only [Bool.and_eq_true] at h
      exact .of ((jt_val G.ok (jx_ix G.ok (MX.snd G h.1) (MX.snd G h.2)) rfl).cg fun ρ => by rw [MX.tst]) (by simp)
    · cases h
  | .call f es, e, h => by
    unfold MX.chk at h; split at h
    · simp only [Bool.and_eq_true, decide_eq_true_eq] at h
      obtain ⟨⟨⟨h1, h2⟩, h3⟩, h4⟩ := h
      exact .of ((jt_val G.ok (jx_call G.ok (G.fns _ _ h1) (gl_of G h2) (chks_head h3) (MXs.sndA G h3 h4)) rfl).cg fun ρ => by rw [MX.tst]) (by simp)
    · cases h
  | .blt b es, e, h => by
    unfold MX.chk at h; split at h
    · simp only [Bool.and_eq_true, decide_eq_true_eq] at h
      obtain ⟨⟨h1, h2⟩, h3⟩ := h
      exact .of ((jt_val G.ok (jx_blt G b h1 h2 (chks_head h3) (MXs.snd G h3)) rfl).cg fun ρ => by rw [MX.tst]) (by simp)
    · cases h
  | .isTy a t, e, h => by
    unfold MX.chk at h; split at h
    · simp only [Bool.and_eq_true, decide_eq_true_eq] at h
      obtain ⟨⟨⟨⟨rfl, h2⟩, h3⟩, rfl⟩, h5⟩ := h
      obtain ⟨b1, b2, b3⟩ := ty_boot t
      exact .of ((jt_val G.ok (jx_isTy G.ok t (gl_of G h2) G.isi (gl_of G h3) (G.tys t) b1 b2 b3 (MX.snd G h5)) rfl).cg fun ρ => by rw [MX.tst]) (by simp)
    · cases h
  | .gne a, e, h => by
    unfold MX.chk at h; split at h
    · exact .of ((jt_gne G.ok (MX.snd G h)).cg fun ρ => by rw [MX.tst]) (by simp)
    · cases h
  | .dget a k, e, h => by
    unfold MX.chk at h; split at h
    · exact .of (jt_bad.cg fun ρ => by rw [MX.tst]; all_goals simp) (by simp)
    · cases h
  | .glen a, e, h => by
    unfold MX.chk at h; split at h
    · exact .of (jt_bad.cg fun ρ => by rw [MX.tst]; all_goals simp) (by simp)
    · cases h
  | .gix a b, e, h => by
    unfold MX.chk at h; split at h
    · exact .of (jt_bad.cg fun ρ => by rw [MX.tst]; all_goals simp) (by simp)
    · cases h
  | .mkDraw a b t, e, h => by
    unfold MX.chk at h; split at h
    · exact .of (jt_bad.cg fun ρ => by rw [MX.tst]; all_goals simp) (by simp)
    · cases h
  | .bl false, e, h => by
    unfold MX.chk at h; split at h
    · exact .of (jt_bad.cg fun ρ => by rw [MX.tst]; all_goals simp) (by simp)
    · cases h
  | .int i, e, h => by
    unfold MX.chk at h; split at h
    · exact .of (jt_bad.cg fun ρ => by rw [MX.tst]; all_goals simp) (by simp)
    · cases h
  | .str i, e, h => by
    unfold MX.chk at h; split at h
    · exact .of (jt_bad.cg fun ρ => by rw [MX.tst]; all_goals simp) (by simp)
    · cases h
  | .non, e, h => by
    unfold MX.chk at h; split at h
    · exact .of (jt_bad.cg fun ρ => by rw [MX.tst]; all_goals simp) (by simp)
    · cases h
  | .glb k, e, h => by
    unfold MX.chk at h; split at h
    · exact .of (jt_bad.cg fun ρ => by rw [MX.tst]; all_goals simp) (by simp)
    · cases h
  | .bin o a b, e, h => by
    unfold MX.chk at h; split at h
    · exact .of (jt_bad.cg fun ρ => by rw [MX.tst]; all_goals simp) (by simp)
    · cases h
  | .neg a, e, h => by
    unfold MX.chk at h; split at h
    · exact .of (jt_bad.cg fun ρ => by rw [MX.tst]; all_goals simp) (by simp)
    · cases h
  | .ite t a b, e, h => by
    unfold MX.chk at h; split at h
    · exact .of (jt_bad.cg fun ρ => by rw [MX.tst]; all_goals simp) (by simp)
    · cases h
  | .tup es, e, h => by
    unfold MX.chk at h; split at h
    · exact .of (jt_bad.cg fun ρ => by rw [MX.tst]; all_goals simp) (by simp)
    · cases h
  | .lst es, e, h => by
    unfold MX.chk at h; split at h
    · exact .of (jt_bad.cg fun ρ => by rw [MX.tst]; all_goals simp) (by simp)
    · cases h
  | .dict0, e, h => by
    unfold MX.chk at h; split at h
    · exact .of (jt_bad.cg fun ρ => by rw [MX.tst]; all_goals simp) (by simp)
    · cases h
  | .sl a lo hi, e, h => by
    unfold MX.chk at h; split at h
    · exact .of (jt_bad.cg fun ρ => by rw [MX.tst]; all_goals simp) (by simp)
    · cases h
  | .comp own T it t e, e', h => by
    unfold MX.chk at h; split at h
    · exact .of (jt_bad.cg fun ρ => by rw [MX.tst]; all_goals simp) (by simp)
    · cases h
  | .rev a, e, h => by
    unfold MX.chk at h; split at h
    · exact .of (jt_bad.cg fun ρ => by rw [MX.tst]; all_goals simp) (by simp)
    · cases h
  | .call0 f, e, h => by
    unfold MX.chk at h; split at h
    · simp only [Bool.and_eq_true, decide_eq_true_eq] at h
      exact .of ((jt_val G.ok (jx_call0 G.ok (G.fns _ _ h.1) (gl_of G h.2)) rfl).cg fun ρ => by rw [MX.tst]) (by simp)
    · cases h
  | .lrg a, e, h => by
    unfold MX.chk at h; split at h
    · exact .of (jt_bad.cg fun ρ => by rw [MX.tst]; all_goals simp) (by simp)
    · cases h
  | .exA a n, e, h => by
    unfold MX.chk at h; split at h
    · exact .of (jt_bad.cg fun ρ => by rw [MX.tst]; all_goals simp) (by simp)
    · exact .of (jt_bad.cg fun ρ => by rw [MX.tst]; all_goals simp) (by simp)
    · exact .of (jt_bad.cg fun ρ => by rw [MX.tst]; all_goals simp) (by simp)
    · cases h
  | .mkT k, e, h => by
    unfold MX.chk at h; split at h
    · exact .of (jt_bad.cg fun ρ => by rw [MX.tst]; all_goals simp) (by simp)
    · cases h
  | .mkE k a, e, h => by
    unfold MX.chk at h; split at h
    · exact .of (jt_bad.cg fun ρ => by rw [MX.tst]; all_goals simp) (by simp)
    · cases h
  | .isE a t, e, h => by
    unfold MX.chk at h; split at h
    · simp only [Bool.and_eq_true, decide_eq_true_eq] at h
      obtain ⟨⟨⟨⟨rfl, h2⟩, h3⟩, h4⟩, h5⟩ := h
      obtain ⟨cv, w, q1, q2, q3, q4⟩ := tgt_of G h4 h3
      exact .of ((jt_val G.ok (jx_isE G.exo (gl_of G h2) G.isi ⟨w, q2 _, q3⟩ (fun k C' n b x y => (q4 k C' n b x y).1) (MX.snd G h5)) rfl).cg fun ρ => by rw [MX.tst]) (by simp)
    · cases h
  | .isE2 a t u, e, h => by
    unfold MX.chk at h; split at h
    · simp only [Bool.and_eq_true, decide_eq_true_eq] at h
      obtain ⟨⟨⟨⟨⟨⟨rfl, h2⟩, h3⟩, h3'⟩, h4⟩, h4'⟩, h5⟩ := h
      obtain ⟨cv, w, q1, q2, q3, q4⟩ := tgt_of G h4 h3
      obtain ⟨cv', w', q1', q2', q3', q4'⟩ := tgt_of G h4' h3'
      exact .of ((jt_val G.ok (jx_isE2 (is := B.isx2 t u) G.exo (gl_of G h2) G.isi (q2 _) q3 (q2' _) q3' (fun k C' n b x y => by
        unfold Tb.isx2 at y
        split at y
        · rename_i a1 b1 e1 e2
          cases y
          exact kitAny2 (q4 k C' n a1 x e1).1 (q4' k C' n b1 x e2).1
        · cases y) (MX.snd G h5)) rfl).cg fun ρ => by rw [MX.tst]) (by simp)
    · cases h
theorem MXs.snd {B : Tb} {C : Ck} {sc : Scope} {c : Ct} {fl : Fls} (G : Gd B C sc c) : ∀ {a : MXs} {e : List Expr}, a.chk C sc fl e = true → JL c fl e (a.ev B)
  | .nil, [], _ => jl_nil.cg fun ρ => by rw [MXs.ev]
  | .nil, _ :: _, h => by unfold MXs.chk at h; cases h
  | .cons a es, [], h => by unfold MXs.chk at h; cases h
  | .cons a es, x :: xs, h => by
    unfold MXs.chk at h
    simp only [Bool.and_eq_true] at h
    exact (jl_cons (MX.snd G h.1) (MXs.snd G h.2)).cg fun ρ => by rw [MXs.ev]
theorem MXs.sndA {B : Tb} {C : Ck} {sc : Scope} {c : Ct} {fl : Fls} (G : Gd B C sc c) : ∀ {a : MXs} {e : List Expr}, a.chk C sc fl e = true → a.notP fl = true → JA c fl e (a.ev B)
  | .nil, [], _, _ => ja_nil.cg fun ρ => by rw [MXs.ev]
  | .nil, _ :: _, h, _ => by unfold MXs.chk at h; cases h
  | .cons a es, [], h, _ => by unfold MXs.chk at h; cases h
  | .cons a es, x :: xs, h, n => by
    unfold MXs.chk at h
    unfold MXs.notP at n
    simp only [Bool.and_eq_true] at h n
    exact (ja_cons ((MX.snd G h.1).toF' (notP_of n.1)) (MXs.sndA G h.2 n.2)).cg fun ρ => by rw [MXs.ev]
theorem MO.snd {B : Tb} {C : Ck} {sc : Scope} {c : Ct} {fl : Fls} (G : Gd B C sc c) : ∀ {a : MO} {e : Option Expr}, a.chk C sc fl e = true → JO c fl e (a.ev B)
  | .no, none, _ => jo_none.cg fun ρ => by rw [MO.ev]
  | .no, some _, h => by unfold MO.chk at h; cases h
  | .yes a, none, h => by unfold MO.chk at h; cases h
  | .yes a, some x, h => by
    unfold MO.chk at h
    exact (jo_some (MX.snd G h)).cg fun ρ => by rw [MO.ev]
theorem MI.snd {B : Tb} {C : Ck} {sc : Scope} {c : Ct} {fl : Fls} {tg : Expr} (G : Gd B C sc c) : ∀ {a : MI} {e : Expr}, a.chk C sc fl e = true → a.tgOk tg = true → JI c fl tg e (a.ev B)
  | .r1 es, e, h, ht => by
    unfold MI.chk at h; split at h
    · simp only [Bool.and_eq_true, decide_eq_true_eq] at h
      obtain ⟨⟨rfl, h2⟩, h3⟩ := h
      have hh := chks_head h3
      simp only [List.all_cons, Bool.and_eq_true] at hh
      exact (ji_range1 (gl_of G h2) G.rng hh.1 (MXs.snd G h3)).cg fun ρ => by rw [MI.ev]
    · cases h
  | .r2 es, e, h, ht => by
    unfold MI.chk at h; split at h
    · simp only [Bool.and_eq_true, decide_eq_true_eq] at h
      obtain ⟨⟨rfl, h2⟩, h3⟩ := h
      have hh := chks_head h3
      simp only [List.all_cons, Bool.and_eq_true] at hh
      exact (ji_range2 (gl_of G h2) G.rng hh.1 hh.2.1 (MXs.snd G h3)).cg fun ρ => by rw [MI.ev]
    · cases h
  | .pairs a, e, h, ht => by
    unfold MI.chk at h; split at h
    · simp only [Bool.and_eq_true, decide_eq_true_eq] at h
      obtain ⟨⟨⟨rfl, h2⟩, h3⟩, h4⟩ := h
      cases tg with
      | Tuple elts kk tp => exact (ji_pairs G.ok (gl_of G h2) G.enu ((MX.snd G h3).toF' (notP_of h4))).cg fun ρ => by rw [MI.ev]
      | _ => cases ht
    · cases h
  | .seq a, e, h, ht => by
    unfold MI.chk at h
    simp only [Bool.and_eq_true] at h
    exact (ji_seq G.ok ((MX.snd G h.1).toF' (notP_of h.2))).cg fun ρ => by rw [MI.ev]
end
end MW
end
section
set_option Elab.async false
set_option autoImplicit false
set_option maxRecDepth 100000
set_option maxHeartbeats 1000000
/-! MW34: what matches means what the evaluator says: statements. -/
namespace MW
open PySem PySem.Spec PyProof.Rows L2

/-- what a body leans on -/
structure Gs (B : Tb) (C : Ck) (sc : Scope) (c : Ct) : Prop where
  g : Gd B C sc c
  se : c.X.env.scope = sc
  kd : sc.kind = .function
  stk : c.X.stack = c.X.env :: c.X.outer
  frm : c.X.env.frame = some c.X.env.locals
  ps : c.Pass
theorem Gd.tr {B : Tb} {C : Ck} {sc : Scope} {c : Ct} (G : Gd B C sc c) {W : WX} {pn : List (Addr × Obj)} {xe : Value → Shared → Prop} (tk : Takes (c.X.tr pn xe) W) : Gd B C sc (c.tr pn xe W) where
  ok := ⟨G.ok.hK, G.ok.calm, G.ok.nd, G.ok.hu, G.ok.hgd, tk, G.ok.sm⟩
  hN := G.hN
  hsc := G.hsc
  fnl := G.fnl
  fns := fun f x h => ⟨(G.fns f x h).ex, (G.fns f x h).dbg⟩
  gls := G.gls
  blt := G.blt
  tys := G.tys
  isi := G.isi
  rng := G.rng
  lst := G.lst
  enu := G.enu
  exo := ⟨G.exo.ok⟩
  exn := G.exn
  mks := fun k x h => ⟨(G.mks k x h).ex, (G.mks k x h).dbg⟩
  mkt := fun k x h => ⟨(G.mkt k x h).ex, (G.mkt k x h).dbg⟩
  tgt := G.tgt
/-! ### the stores of two or three names at once -/
theorem sw_ok {sc : Scope} {ts vs : List Expr} {r : Option (List Str)} {env : PySem.Env} {k k2 : Nat} {p p2 : Pos} (hs : env.scope = sc) (hk : sc.kind = .function) (h : swB sc ts vs = some r) :
    swappedStores [.Tuple ts k p] (.Tuple vs k2 p2) env = pure r := by
  have hb : env.blockKind = .function := by unfold Env.blockKind; rw [hs, hk]; rfl
  have hkind : ∀ id : Str, env.kindOf id = sc.names.lookup id := fun id => by unfold Env.kindOf; rw [hs]
  have hbb : (env.blockKind != .function) = false := by rw [hb]; rfl
  unfold swB at h
  unfold swappedStores
  simp only [hbb, Bool.or_false, hkind]
  split at h
  · rename_i c1
    cases h
    exact if_pos c1
  · rename_i c1
    refine (if_neg c1).trans ?_
    split at h
    · rename_i c2
      cases h
      exact if_pos c2
    · rename_i c2
      refine (if_neg c2).trans ?_
      dsimp only at h
      split at h
      · rename_i c3
        cases h
        exact if_pos c3
      · rename_i c3
        refine (if_neg c3).trans ?_
        split at h
        · rename_i c4
          cases h
          exact if_pos c4
        · rename_i c4
          refine (if_neg c4).trans ?_
          split at h
          · cases h
          · rename_i c5
            cases h
            exact if_neg c5
/-! ### helpers -/
theorem down_b {c : Ct} {fl flo flb m : Fls} {sts : List Stmt} {f : En → M Fl} (h : downB flo m = true) (j : JB c fl flo flb sts f) : JB c fl m flb sts f := by
  have e := of_decide_eq_true h
  rw [← e]
  exact j.dropOut _
theorem down_brk {c : Ct} {fl flo flb : Fls} {p : Pos} (h : downB fl flb = true) : JS c fl flo flb (.Break p) fun ρ => M.pure (.bk ρ) := by
  have e := of_decide_eq_true h
  refine JS.dropIn (dropTo fl flb) ?_
  have e' : MW.drops (dropTo fl flb) fl = flb := e
  rw [e']
  exact js_break
theorem down_ct {c : Ct} {fl flo flb : Fls} {p : Pos} (h : downB fl flb = true) : JS c fl flo flb (.Continue p) fun ρ => M.pure (.ct ρ) := by
  have e := of_decide_eq_true h
  refine JS.dropIn (dropTo fl flb) ?_
  have e' : MW.drops (dropTo fl flb) fl = flb := e
  rw [e']
  exact js_continue
theorem JS.cg {c : Ct} {fl flo flb : Fls} {st : Stmt} {f g : En → M Fl} (h : JS c fl flo flb st f) (E : ∀ ρ, g ρ = f ρ) : JS c fl flo flb st g := by
  have : g = f := funext E
  rw [this]; exact h
theorem JB.cg {c : Ct} {fl flo flb : Fls} {st : List Stmt} {f g : En → M Fl} (h : JB c fl flo flb st f) (E : ∀ ρ, g ρ = f ρ) : JB c fl flo flb st g := by
  have : g = f := funext E
  rw [this]; exact h
section
variable {B : Tb} {C : Ck} {sc : Scope} {c : Ct} {fl : Fls}
/-- values for slots -/
theorem MXs.sndR (G : Gd B C sc c) : ∀ {is : List Nat} {os : List Bool} {es : MXs} {xs : List Expr}, es.chk C sc fl xs = true → parOk fl os es = true → is.length = os.length → JR c fl xs (is.zip os) (es.ev B)
  | [], [], .nil, [], _, _, _ => by
    have e : MXs.ev B .nil = fun _ => M.pure [] := funext fun ρ => by rw [MXs.ev]
    rw [e]
    exact jr_nil
  | i :: is, o :: os, .cons a es, x :: xs, h, p, hl => by
    unfold MXs.chk at h
    rw [Bool.and_eq_true] at h
    have e : MXs.ev B (.cons a es) = fun ρ => M.bind (a.ev B ρ) fun x => M.bind (es.ev B ρ) fun xs => M.pure (x :: xs) := funext fun ρ => by rw [MXs.ev]
    rw [e, List.zip_cons_cons]
    cases o with
    | true =>
      unfold parOk at p
      rw [Bool.and_eq_true, decide_eq_true_eq] at p
      have j := MX.snd G h.1
      rw [p.1] at j
      exact jr_cons true j (MXs.sndR G h.2 p.2 (Nat.succ.inj hl))
    | false =>
      unfold parOk at p
      rw [Bool.and_eq_true] at p
      exact jr_cons false ((MX.snd G h.1).toF' (notP_of p.1)) (MXs.sndR G h.2 p.2 (Nat.succ.inj hl))
  | _, [], .cons _ _, _, _, p, _ => by unfold parOk at p; cases p
  | _, true :: _, .nil, _, _, p, _ => by unfold parOk at p; cases p
  | _, false :: _, .nil, _, _, p, _ => by unfold parOk at p; cases p
  | _, _, .nil, _ :: _, h, _, _ => by unfold MXs.chk at h; cases h
  | _, _, .cons _ _, [], h, _, _ => by unfold MXs.chk at h; cases h
  | [], _ :: _, _, _, _, _, hl => by cases hl
  | _ :: _, [], _, _, _, _, hl => by cases hl
theorem zip_map_fst {is : List Nat} {os : List Bool} (h : is.length = os.length) : (is.zip os).map (·.1) = is := zip_fst h
theorem par_snd (G : Gs B C sc c) {is : List Nat} {os : List Bool} {es : MXs} {ts vs : List Expr} {k k2 : Nat} {p p2 pos : Pos} {flb : Fls} (h1 : es.chk C sc fl vs = true) (h2 : parOk fl os es = true) (h3 : is.length = os.length) (h4 : (is.all fun i => decide (i < fl.length)) = true) (h5 : parChk C sc fl is os ts vs = true) :
    JS c fl (setMs (is.zip os) fl) flb (.Assign [.Tuple ts k p] (.Tuple vs k2 p2) pos) (fPar is (es.ev B)) := by
  have jr := MXs.sndR G.g h1 h2 h3
  have hl : ∀ q ∈ is.zip os, q.1 < fl.length := fun q hq => of_decide_eq_true (List.all_eq_true.mp h4 q.1 (List.of_mem_zip hq).1)
  have hl' : ∀ i ∈ is, i < fl.length := fun i hi => of_decide_eq_true (List.all_eq_true.mp h4 i hi)
  unfold parChk at h5
  split at h5
  · rename_i hw
    rw [Bool.and_eq_true] at h5
    have jn := names_jn G.g h5.1
    have z : (is.zip os).length = is.length := by rw [List.length_zip, ← h3, Nat.min_self]
    have e := js_parN (k2 := k2) (kt := k) (pt := p) (pt2 := p2) (pos := pos) (flb := flb) G.g.ok (by rw [zip_map_fst h3]; exact jn) hl (by rw [z]; exact h5.2) jr (sw_ok G.se G.kd hw)
    rw [zip_map_fst h3] at e
    exact e
  · rename_i ns hw
    split at h5
    · simp only [Bool.and_eq_true, decide_eq_true_eq] at h5
      obtain ⟨⟨⟨⟨⟨rfl, n1⟩, n2⟩, n3⟩, n4⟩, n5⟩ := h5
      have e := js_par2 (flb := flb) (pos := pos) (kt := k) (k2 := k2) (pt := p) (pt2 := p2) G.g.ok (by rw [G.g.hN]; exact n1) (by rw [G.g.hN]; exact n2) n3 (hl' _ (by simp)) (hl' _ (by simp)) (by rw [G.se]; exact n4) (by rw [G.se]; exact n5) jr (sw_ok G.se G.kd hw)
      exact e
    · simp only [Bool.and_eq_true, decide_eq_true_eq] at h5
      obtain ⟨⟨⟨⟨⟨⟨⟨⟨⟨rfl, n1⟩, n2⟩, n3⟩, n4⟩, n5⟩, n6⟩, n7⟩, n8⟩, n9⟩ := h5
      have e := js_par3 (flb := flb) (pos := pos) (kt := k) (k2 := k2) (pt := p) (pt2 := p2) G.g.ok (by rw [G.g.hN]; exact n1) (by rw [G.g.hN]; exact n2) (by rw [G.g.hN]; exact n3) n4 n5 n6 (hl' _ (by simp)) (hl' _ (by simp)) (hl' _ (by simp)) (by rw [G.se]; exact n7) (by rw [G.se]; exact n8) (by rw [G.se]; exact n9) jr (sw_ok G.se G.kd hw)
      exact e
    · cases h5
  · cases h5
/-- targets -/
theorem sub_assign {x : Str} {p pos : Pos} {a : Expr} {env : PySem.Env} (h : okHead a = true) : ∀ v, assign (.Subscript (.Name x p) a pos) env v = (do
      let ov ← holding [v] (eval (.Name x p) env)
      let iv ← holding [v, ov] (eval a env)
      standAt pos
      holding [v, ov, iv] (setItem ov iv v)
      release [v, ov, iv] []) := by
  intro v
  cases a <;> first | rfl | cases h
theorem MT.snd (G : Gd B C sc c) {t : MT} {e : Expr} {fl' : Fls} (h : t.chk C sc fl e = some fl') : JU1 c fl fl' e (t.put B) ∧ assign e c.X.env = assign e c.X.env ∧ (∀ es, assignEach (e :: es) c.X.env = (false, assign e c.X.env) :: assignEach es c.X.env) := by
  unfold MT.chk at h
  split at h
  · split at h
    · rename_i hs
      cases h
      obtain ⟨h1, h2, h3⟩ := store_of G hs
      exact ⟨ju_name G.ok h1 h2 h3, rfl, fun _ => rfl⟩
    · cases h
  · split at h
    · rename_i hs
      cases h
      simp only [Bool.and_eq_true, decide_eq_true_eq] at hs
      obtain ⟨⟨h0, h1⟩, rfl⟩ := hs
      obtain ⟨s1, s2, s3, s4⟩ := slot_of G h0
      exact ⟨ju_dput G.ok s1 s2 s3 s4 h1 (sub_assign rfl), rfl, fun _ => rfl⟩
    · cases h
  · split at h
    · rename_i hs
      cases h
      simp only [Bool.and_eq_true, decide_eq_true_eq] at hs
      obtain ⟨⟨h0, h1⟩, h2⟩ := hs
      obtain ⟨s1, s2, s3, s4⟩ := slot_of G h0
      exact ⟨ju_gput s1 s2 s3 s4 h1 (MX.snd G h2) (sub_assign (chk_head h2)), rfl, fun _ => rfl⟩
    · cases h
  · split at h
    · rename_i hs
      cases h
      simp only [Bool.and_eq_true, decide_eq_true_eq] at hs
      obtain ⟨⟨h0, h1⟩, h2⟩ := hs
      obtain ⟨s1, s2, s3, s4⟩ := slot_of G h0
      exact ⟨ju_sub s1 s2 s3 s4 h1 (MX.snd G h2) (sub_assign (chk_head h2)), rfl, fun _ => rfl⟩
    · cases h
  · cases h
theorem chkAll_snd (G : Gd B C sc c) : ∀ {ts : List MT} {es : List Expr} {fl fl' : Fls}, chkAll C sc fl ts es = some fl' → JU c fl fl' es (putAll B ts) ∧ es.length = ts.length
  | [], [], _, _, h => by
    cases h
    exact ⟨ju_nil, rfl⟩
  | t :: ts, e :: es, fl, fl', h => by
    unfold chkAll at h
    split at h
    · rename_i f1 h1
      obtain ⟨j1, _, j2⟩ := MT.snd G h1
      obtain ⟨j3, j4⟩ := chkAll_snd G h
      exact ⟨ju_cons j1 j3 (j2 es), congrArg (· + 1) j4⟩
    · cases h
  | [], _ :: _, _, _, h => by unfold chkAll at h; cases h
  | _ :: _, [], _, _, h => by unfold chkAll at h; cases h
end
end MW
end
section
set_option Elab.async false
set_option autoImplicit false
set_option maxRecDepth 100000
set_option maxHeartbeats 1000000
/-! MW35: what matches means what the evaluator says: statements. -/
namespace MW
open PySem PySem.Spec PyProof.Rows L2
section
variable {B : Tb} {C : Ck} {sc : Scope} {c : Ct} {fl : Fls}
/-- what needs no calm context, in an except suite -/
theorem cst_snd (G : Gs B C sc c) {a : MX} {e : Expr} (hc : a.cst fl = true) (h : a.chk C sc fl e = true) (a0 : Addr) (pn : List (Addr × Obj)) : JX (c.su a0 pn) fl e .F (a.ev B) := by
  unfold MX.cst at hc
  split at hc
  · unfold MX.chk at h; split at h
    · have e := of_decide_eq_true h
      subst e
      exact jx_int.cg (fun ρ => by rw [MX.ev]) rfl
    · cases h
  · unfold MX.chk at h; split at h
    · have e := of_decide_eq_true h
      subst e
      exact jx_str.cg (fun ρ => by rw [MX.ev]) rfl
    · cases h
  · unfold MX.chk at h; split at h
    · have e := of_decide_eq_true h
      subst e
      exact jx_bl.cg (fun ρ => by rw [MX.ev]) rfl
    · cases h
  · unfold MX.chk at h; split at h
    · exact jx_non.cg (fun ρ => by rw [MX.ev]) rfl
    · cases h
  · unfold MX.chk at h; split at h
    · simp only [Bool.and_eq_true, decide_eq_true_eq] at h
      have g0 := gl_of G.g h.2
      have g : Gl (c.su a0 pn).X _ := g0
      exact (jx_glb g (G.g.gls _ _ h.1).1 (G.g.gls _ _ h.1).2).cg (fun ρ => by rw [MX.ev]) rfl
    · cases h
  · unfold MX.chk at h; split at h
    · rename_i xs _
      rw [Bool.and_eq_true] at h
      cases xs with
      | nil =>
        have e : MX.ev B (.lst .nil) = fun ρ => M.bind ((fun _ => M.pure []) ρ) fun xs => if fits xs.length then M.pure (.lst xs) else M.bad := funext fun ρ => by rw [MX.ev, MXs.ev]
        rw [e]
        exact (jx_lst ja_nil).toF
      | cons _ _ => have := h.1; unfold MXs.chk at this; cases this
    · cases h
  · unfold MX.chk at h; split at h
    · obtain ⟨h1, h2, h3, h4⟩ := slot_of G.g h
      exact (jx_varF (c := c.su a0 pn) h1 h2 h3 h4 (of_decide_eq_true hc)).cg (fun ρ => by rw [MX.ev]) rfl
    · cases h
  · cases hc
theorem cst_noComp {a : MX} {e : Expr} (hc : a.cst fl = true) (h : a.chk C sc fl e = true) : noComp e = true := by
  unfold MX.cst at hc
  split at hc <;> first | (unfold MX.chk at h; split at h <;> first | rfl | cases h) | cases hc
/-- the suite -/
theorem sui_snd (G : Gs B C sc c) {flb : Fls} {s : MS} {b : List Stmt} {r : Option Fls} (h : s.sui C sc fl b = some r) (a0 : Addr) (pn : List (Addr × Obj)) : ∃ b₀, b = [b₀] ∧ ∀ flo, (∀ f, r = some f → flo = f) → JB (c.su a0 pn) fl flo flb [b₀] (s.run B) := by
  unfold MS.sui at h
  split at h
  · split at h
    · rename_i hs
      cases h
      simp only [Bool.and_eq_true] at hs
      obtain ⟨⟨h1, h2⟩, h3⟩ := hs
      refine ⟨_, rfl, fun flo hf => ?_⟩
      rw [hf _ rfl]
      obtain ⟨s1, s2, s3⟩ := store_of G.g h1
      have j := cst_snd G h2 h3 a0 pn
      have nc := cst_noComp h2 h3
      exact (jb_one ((j1_set (c := c.su a0 pn) G.g.ok.nd s1 s2 s3 j nc).js (flb := flb) (.inr rfl))).cg fun ρ => by rw [MS.run]; rfl
    · cases h
  · split at h
    · rename_i hs
      cases h
      simp only [Bool.and_eq_true] at hs
      refine ⟨_, rfl, fun flo hf => ?_⟩
      exact (jb_one (js_ret (cst_snd G hs.1 hs.2 a0 pn))).cg fun ρ => by rw [MS.run]
    · cases h
  · cases h
    refine ⟨_, rfl, fun flo hf => ?_⟩
    rw [hf _ rfl]
    exact (jb_one js_pass).cg fun ρ => by rw [MS.run]
  · cases h
theorem cls_snd (G : Gs B C sc c) {cl : List Nat} {t : Expr} (h : clsB C sc cl t = true) : ∃ cs, TestOk c.X t cs ∧ Mch c cs (B.mch cl) := by
  unfold clsB at h
  split at h
  · simp only [Bool.and_eq_true, decide_eq_true_eq] at h
    obtain ⟨cv, w, q1, q2, q3, q4⟩ := tgt_of G.g h.1 h.2
    exact ⟨_, test_one q1, fun k C' n b x y => exmAny1 (q4 k C' n b x y).2⟩
  · simp only [Bool.and_eq_true, decide_eq_true_eq] at h
    obtain ⟨⟨⟨h1, h2⟩, h3⟩, h4⟩ := h
    obtain ⟨cv, w, q1, q2, q3, q4⟩ := tgt_of G.g h1 h2
    obtain ⟨cv', w', q1', q2', q3', q4'⟩ := tgt_of G.g h3 h4
    refine ⟨_, test_two q1 q1', fun k C' n b x y => ?_⟩
    have y' : B.isx2 _ _ k = some b := y
    unfold Tb.isx2 at y'
    split at y'
    · rename_i a1 b1 e1 e2
      cases y'
      exact exmAny2 (q4 k C' n a1 x e1).2 (q4' k C' n b1 x e2).2
    · cases y'
  · cases h
theorem one_snd (G : Gd B C sc c) {o : One} {a : MX} {st : Stmt} (h : o.chk C sc fl a st = true) : J1 c fl o st (a.ev B) := by
  unfold One.chk at h
  split at h
  · simp only [Bool.and_eq_true] at h
    exact j1_expr ((MX.snd G h.1.1).toF' (notP_of h.1.2)) h.2
  · simp only [Bool.and_eq_true] at h
    obtain ⟨⟨⟨h1, h2⟩, h3⟩, h4⟩ := h
    obtain ⟨s1, s2, s3⟩ := store_of G h4
    exact j1_set G.ok.nd s1 s2 s3 ((MX.snd G h1).toF' (notP_of h2)) h3
  · simp only [Bool.and_eq_true] at h
    exact j1_ret ((MX.snd G h.1).toF' (notP_of h.2))
  · cases h
theorem comp_parts (G : Gd B C sc c) {own : List Nat} {T : Tg} {it : MI} {t b : MX} {elt tg iter : Expr} {ifs : List Expr} {scope : Scope} {p : Pos} (h : MX.chk C sc fl (.comp own T it t b) (.ListComp elt [⟨tg, iter, ifs, 0⟩] scope p) = true) :
    JI c fl tg iter (it.ev B) ∧ okHead iter = true ∧ BlkOk c.X.N c.X.env.scope scope (ownP C own) ∧ (∀ i ∈ T.slots, i ∈ (ownP C own).map (·.2)) ∧ JC c fl tg elt ifs scope T (t.tst B) (b.ev B) ∧ (ownP C own).map (·.2) = own := by
  unfold MX.chk at h
  simp only [Bool.and_eq_true, decide_eq_true_eq] at h
  obtain ⟨⟨⟨⟨⟨⟨⟨⟨h1, h0⟩, h2⟩, h3⟩, h4⟩, h5⟩, h6⟩, h7⟩, h8⟩ := h
  have hT : ∀ i ∈ T.slots, i ∈ (ownP C own).map (·.2) := fun i hi => by
    rw [h3]
    have := List.all_eq_true.mp h5 i hi
    simpa using this
  have jt : ∀ (s : Shared) (H : Hp) (A : Addr) (cl : List (Str × Addr)) (fp : List Addr), JTs (c.blk (c.X.blk s H scope (compEnvC scope cl A c.X.env) fp)) (T.fl fl) ifs (t.tst B) := fun s H A cl fp => by
    split at h6
    · split at h6
      · have z : MX.tst B (.bl true) = tYesM := funext fun ρ => by rw [MX.tst]; rfl
        rw [z]
        exact jts_nil
      · cases h6
    · exact jts_one (MX.sndT (G.blk _ _ _ _ _ _) h6).1
    · cases h6
  exact ⟨MI.snd G h1 h0, mi_head h1, blk_of G h2, hT, ⟨fun s H A cl fp => Tg.snd (G.blk _ _ _ _ _ _) h4, jt, fun s H A cl fp => (MX.snd (G.blk _ _ _ _ _ _) h7).toF' (notP_of h8)⟩, h3⟩
/-- a store of one name -/
theorem set_snd (G : Gs B C sc c) {i : Nat} {a : MX} {x : Str} {px pos : Pos} {e : Expr} {f flb : Fls} (h : setChk C sc fl i a x px e = some f) : JS c fl f flb (.Assign [.Name x px] e pos) (fSet i (a.ev B)) := by
  unfold setChk at h
  split at h
  · rename_i hs
    rw [Bool.and_eq_true] at hs
    obtain ⟨s1, s2, s3⟩ := store_of G.g hs.1
    have j := MX.snd G.g hs.2
    split at h
    · rename_i hn
      split at h
      · rename_i ho
        rw [Bool.and_eq_true, decide_eq_true_eq, decide_eq_true_eq] at ho
        cases h
        rw [ho.1] at j
        exact js_setO G.g.ok s1 ho.2 s2 s3 j hn
      · split at h
        · rename_i hp
          cases h
          exact js_setF G.g.ok s1 s2 s3 (j.toF' (notP_of hp)) hn
        · cases h
    · split at h
      · rename_i own T it t b elt tg iter ifs scope p _
        split at h
        · rename_i hq
          cases h
          simp only [Bool.and_eq_true, decide_eq_true_eq, Bool.not_eq_true'] at hq
          obtain ⟨⟨⟨q1, q2⟩, q3⟩, q4⟩ := hq
          obtain ⟨c1, c2, c3, c4, c5, h3⟩ := comp_parts G.g hs.2
          have z := js_setLc (o := true) (flb := flb) (pos := pos) G.g.ok s1 q4 (by rw [G.se]; exact q1) (by rw [G.se]; exact G.kd) q2 q3 c1 c2 c3 c4 c5
          rw [h3] at z
          refine z.cg fun ρ => ?_
          have e : MX.ev B (.comp own T it t b) = fComp own T (it.ev B) (t.tst B) (b.ev B) := funext fun ρ => by rw [MX.ev]
          rw [e]
        · cases h
      · cases h
  · cases h
end
end MW
end
section
set_option Elab.async false
set_option autoImplicit false
set_option maxRecDepth 100000
set_option maxHeartbeats 0
/-! MW36: what matches means what the evaluator says: all statements; a def by its AST. -/
namespace MW
open PySem PySem.Spec PyProof.Rows L2
theorem sole_no {t e : Expr} {l : Nat} {env : PySem.Env} (h : noComp e = true) : swapsWithSole [t] e l env = pure false := by
  unfold swapsWithSole
  exact swap_no h _ _ _
theorem asgs_sw {sc : Scope} {xs : List Expr} {e : Expr} {env : PySem.Env} {k : Nat} {p : Pos} (hs : env.scope = sc) (hk : sc.kind = .function) (h : asgsB sc xs e = true) : swappedStores [.Tuple xs k p] e env = pure none := by
  cases e with
  | Tuple vs k2 p2 => exact sw_ok hs hk (of_decide_eq_true h)
  | _ => rfl
section
variable {B : Tb} {C : Ck} {sc : Scope} {c : Ct}
mutual
theorem MS.sndS (G : Gs B C sc c) {flb : Fls} : ∀ {a : MS} {fl : Fls} {st : Stmt} {r : Option Fls}, a.chkS C sc flb fl st = some r → ∀ flo, (∀ f, r = some f → flo = f) → JS c fl flo flb st (a.run B)
  | .pass, fl, st, r, h, flo, hf => by
    unfold MS.chkS at h; split at h
    · cases h
      rw [hf _ rfl]
      exact js_pass.cg fun ρ => by rw [MS.run]
    · cases h
  | .brk, fl, st, r, h, flo, hf => by
    unfold MS.chkS at h; split at h
    · split at h
      · exact (down_brk (by assumption)).cg fun ρ => by rw [MS.run]
      · cases h
    · cases h
  | .cont, fl, st, r, h, flo, hf => by
    unfold MS.chkS at h; split at h
    · split at h
      · exact (down_ct (by assumption)).cg fun ρ => by rw [MS.run]
      · cases h
    · cases h
  | .retN, fl, st, r, h, flo, hf => by
    unfold MS.chkS at h; split at h
    · exact js_retN.cg fun ρ => by rw [MS.run]
    · cases h
  | .ret a, fl, st, r, h, flo, hf => by
    unfold MS.chkS at h; split at h
    · split at h
      · rename_i hs
        rw [Bool.and_eq_true] at hs
        exact (js_ret ((MX.snd G.g hs.1).toF' (notP_of hs.2))).cg fun ρ => by rw [MS.run]
      · cases h
    · cases h
  | .set i a, fl, st, r, h, flo, hf => by
    unfold MS.chkS at h; split at h
    · obtain ⟨f, h1, h2⟩ := Option.map_eq_some_iff.mp h
      rw [hf f h2.symm]
      exact (set_snd G h1).cg fun ρ => by rw [MS.run]
    · cases h
  | .par is os es, fl, st, r, h, flo, hf => by
    unfold MS.chkS at h; split at h
    · split at h
      · rename_i hs
        cases h
        rw [hf _ rfl]
        simp only [Bool.and_eq_true, decide_eq_true_eq] at hs
        obtain ⟨⟨⟨⟨h1, h2⟩, h3⟩, h4⟩, h5⟩ := hs
        exact (par_snd G h1 h2 h3 h4 h5).cg fun ρ => by rw [MS.run]
      · cases h
    · cases h
  | .asg t a, fl, st, r, h, flo, hf => by
    unfold MS.chkS at h; split at h
    · split at h
      · rename_i hs
        obtain ⟨f, h1, h2⟩ := Option.map_eq_some_iff.mp h
        rw [hf f h2.symm]
        simp only [Bool.and_eq_true] at hs
        obtain ⟨j1, _, j2⟩ := MT.snd G.g h1
        refine (js_asg j1 ((MX.snd G.g hs.1.1).toF' (notP_of hs.1.2)) ?_ rfl (by rw [j2 []]; rfl)).cg fun ρ => by rw [MS.run]
        exact sole_no hs.2
      · cases h
    · cases h
  | .asgs ts a, fl, st, r, h, flo, hf => by
    unfold MS.chkS at h; split at h
    · split at h
      · rename_i xs k p e pos hs
        obtain ⟨f, h1, h2⟩ := Option.map_eq_some_iff.mp h
        rw [hf f h2.symm]
        simp only [Bool.and_eq_true] at hs
        obtain ⟨⟨⟨q1, q2⟩, q3⟩, q4⟩ := hs
        obtain ⟨j1, j2⟩ := chkAll_snd G.g h1
        refine (js_asg (ju_tup G.g.ok j1 j2) ((MX.snd G.g q1).toF' (notP_of q2)) (sole_no q3) ?_ rfl).cg fun ρ => by rw [MS.run]
        exact asgs_sw G.se G.kd q4
      · cases h
    · cases h
  | .app i a, fl, st, r, h, flo, hf => by
    unfold MS.chkS at h; split at h
    · split at h
      · rename_i hs
        cases h
        rw [hf _ rfl]
        simp only [Bool.and_eq_true, decide_eq_true_eq] at hs
        obtain ⟨⟨⟨⟨⟨rfl, h1⟩, h2⟩, h3⟩, h4⟩, h5⟩ := hs
        obtain ⟨s1, s2, s3, s4⟩ := slot_of G.g h1
        exact (js_app G.g.ok s1 s2 s3 s4 h2 ((MX.snd G.g h3).toF' (notP_of h4)) h5).cg fun ρ => by rw [MS.run]
      · cases h
    · cases h
  | .expr a, fl, st, r, h, flo, hf => by
    unfold MS.chkS at h; split at h
    · split at h
      · rename_i hs
        cases h
        rw [hf _ rfl]
        rw [Bool.and_eq_true] at hs
        exact (js_expr (MX.snd G.g hs.1) hs.2).cg fun ρ => by rw [MS.run]
      · cases h
    · cases h
  | .nil, fl, st, r, h, flo, hf => by unfold MS.chkS at h; cases h
  | .cons _ _, fl, st, r, h, flo, hf => by unfold MS.chkS at h; cases h
  | .ifs t a b, fl, st, r, h, flo, hf => by
    unfold MS.chkS at h; split at h
    · split at h
      · rename_i ht
        have jt := (MX.sndT G.g ht).1
        have E : ∀ ρ, MS.run B (.ifs t a b) ρ = M.bind (t.tst B ρ) fun k => if k then a.run B ρ else b.run B ρ := fun ρ => by rw [MS.run]
        split at h
        · rename_i e1 e2
          cases h
          exact (js_if jt (MS.sndB G e1 flo (fun f q => nomatch q)) (MS.sndB G e2 flo hf)).cg E
        · rename_i e1 e2
          cases h
          exact (js_if jt (MS.sndB G e1 flo hf) (MS.sndB G e2 flo (fun f q => nomatch q))).cg E
        · rename_i f g e1 e2
          split at h
          · rename_i hd
            cases h
            rw [hf _ rfl]
            rw [Bool.and_eq_true] at hd
            exact (js_if jt (down_b hd.1 (MS.sndB G e1 f fun _ q => by cases q; rfl)) (down_b hd.2 (MS.sndB G e2 g fun _ q => by cases q; rfl))).cg E
          · cases h
        · cases h
      · cases h
    · cases h
  | .for_ T it b, fl, st, r, h, flo, hf => by
    unfold MS.chkS at h; split at h
    · split at h
      · rename_i hs
        simp only [Bool.and_eq_true] at hs
        obtain ⟨⟨h1, h0⟩, h2⟩ := hs
        have E : ∀ ρ, MS.run B (.for_ T it b) ρ = fFor T (it.ev B) (b.run B) ρ := fun ρ => by rw [MS.run]
        split at h
        · rename_i e1
          cases h
          rw [hf _ rfl]
          exact (js_for G.g.ok G.ps (MI.snd G.g h1 h0) (mi_head h1) (Tg.snd G.g h2) (MS.sndB G e1 fl (fun f q => nomatch q))).cg E
        · rename_i f e1
          split at h
          · rename_i hd
            cases h
            rw [hf _ rfl]
            exact (js_for G.g.ok G.ps (MI.snd G.g h1 h0) (mi_head h1) (Tg.snd G.g h2) (down_b hd (MS.sndB G e1 f fun _ q => by cases q; rfl))).cg E
          · cases h
        · cases h
      · cases h
    · cases h
  | .whl n t b, fl, st, r, h, flo, hf => by
    unfold MS.chkS at h; split at h
    · split at h
      · rename_i ht
        have jt := (MX.sndT G.g ht).1
        have E : ∀ ρ, MS.run B (.whl n t b) ρ = whL (t.tst B) (b.run B) n ρ := fun ρ => by rw [MS.run]
        split at h
        · rename_i e1
          cases h
          rw [hf _ rfl]
          exact (js_while G.ps n jt (MS.sndB G e1 fl (fun f q => nomatch q))).cg E
        · rename_i f e1
          split at h
          · rename_i hd
            cases h
            rw [hf _ rfl]
            exact (js_while G.ps n jt (down_b hd (MS.sndB G e1 f fun _ q => by cases q; rfl))).cg E
          · cases h
        · cases h
      · cases h
    · cases h
  | .raise_ k a, fl, st, r, h, flo, hf => by
    unfold MS.chkS at h; split at h
    · split at h
      · rename_i hs
        simp only [Bool.and_eq_true, decide_eq_true_eq] at hs
        obtain ⟨⟨⟨h1, h2⟩, h3⟩, h4⟩ := hs
        exact (js_raise G.g.ok (G.g.mks _ _ h1) (gl_of G.g h2) ((MX.snd G.g h3).toF' (notP_of h4))).cg fun ρ => by rw [MS.run]
      · cases h
    · cases h
  | .raiseT k, fl, st, r, h, flo, hf => by
    unfold MS.chkS at h; split at h
    · split at h
      · rename_i hs
        simp only [Bool.and_eq_true, decide_eq_true_eq] at hs
        exact (js_raiseT G.g.ok (G.g.mkt _ _ hs.1) (gl_of G.g hs.2)).cg fun ρ => by rw [MS.run]
      · cases h
    · cases h
  | .try_ cl nm o a s, fl, st, r, h, flo, hf => by
    unfold MS.chkS at h; split at h
    · rename_i st0 t n body p1 p2
      split at h
      · rename_i hs
        simp only [Bool.and_eq_true] at hs
        obtain ⟨⟨h1, h2⟩, h3⟩ := hs
        obtain ⟨cs, ht, hm⟩ := cls_snd G h1
        have main : ∀ fs, s.sui C sc fl body = some fs → (o = .ret ∨ flo = o.fl fl) → (∀ f, fs = some f → flo = f) → JS c fl flo flb (.Try [st0] [.ExceptHandler (some t) n body p1] [] [] p2) (MS.run B (.try_ cl nm o a s)) := fun fs e1 hl hfs => by
          have e0 : MS.run B (.try_ cl nm o a s) = fTry (B.mch cl) nm o (a.ev B) (s.run B) := funext fun ρ => by rw [MS.run]
          rw [e0]
          obtain ⟨b₀, rfl, _⟩ := sui_snd (flb := flb) G e1 0 []
          have hsu : ∀ (a0 : Addr) (pn : List (Addr × Obj)), JB (c.su a0 pn) fl flo flb [b₀] (s.run B) := fun a0 pn => by
            obtain ⟨b1, q1, q2⟩ := sui_snd (flb := flb) G e1 a0 pn
            cases q1
            exact q2 flo hfs
          have hb : ∀ (W : WX) (pn : List (Addr × Obj)) (xe : Value → Shared → Prop), Takes (c.X.tr pn xe) W → J1 (c.tr pn xe W) fl o st0 (a.ev B) := fun W pn xe tk => one_snd (G.g.tr tk) h3
          unfold nmB at h2
          split at h2
          · exact js_try (nm := none) G.g.ok G.stk G.frm (fun p q => nomatch q) ht hm hl (fun p q => nomatch q) hb hsu
          · rename_i i x
            simp only [Bool.and_eq_true, decide_eq_true_eq] at h2
            obtain ⟨⟨n1, n2⟩, n3⟩ := h2
            refine js_try (nm := some (x, i)) G.g.ok G.stk G.frm (fun p q => ?_) ht hm hl (fun p q => ?_) hb hsu
            · cases q
              exact ⟨by rw [G.g.hN]; exact n1, by show c.X.env.scope.names.lookup x = _; rw [G.se]; exact n2⟩
            · cases q
              exact n3
          · cases h2
        split at h
        · rename_i e1
          split at h
          · exact main _ e1 (.inl rfl) (fun f q => nomatch q)
          · rename_i ho
            cases h
            exact main _ e1 (.inr (hf _ rfl)) (fun f q => nomatch q)
        · rename_i f e1
          split at h
          · cases h
            exact main _ e1 (.inl rfl) (fun f' q => by cases q; exact hf _ rfl)
          · split at h
            · rename_i hd
              cases h
              have e2 := of_decide_eq_true hd
              exact main _ e1 (.inr ((hf _ rfl).trans e2)) (fun f' q => by cases q; exact hf _ rfl)
            · cases h
        · cases h
      · cases h
    · cases h
  | .drop l a, fl, st, r, h, flo, hf => by
    unfold MS.chkS at h
    exact (JS.dropIn l (MS.sndS G (fl := MW.drops l fl) h flo hf)).cg fun ρ => by rw [MS.run]
theorem MS.sndB (G : Gs B C sc c) {flb : Fls} : ∀ {a : MS} {fl : Fls} {st : List Stmt} {r : Option Fls}, a.chkB C sc flb fl st = some r → ∀ flo, (∀ f, r = some f → flo = f) → JB c fl flo flb st (a.run B)
  | .nil, fl, st, r, h, flo, hf => by
    unfold MS.chkB at h; split at h
    · cases h
      rw [hf _ rfl]
      exact jb_nil.cg fun ρ => by rw [MS.run]
    · cases h
  | .cons a b, fl, st, r, h, flo, hf => by
    unfold MS.chkB at h; split at h
    · split at h
      · rename_i f e1
        exact (jb_cons (MS.sndS G e1 f fun _ q => by cases q; rfl) (MS.sndB G h flo hf)).cg fun ρ => by rw [MS.run]
      · rename_i e1
        split at h
        · cases h
          exact (jb_cons (MS.sndS G e1 flo (fun f q => nomatch q)) jb_nil).cg fun ρ => by
            have e : MS.run B .nil = fun ρ => M.pure (.nx ρ) := funext fun ρ => by rw [MS.run]
            rw [MS.run, e]
        · cases h
      · cases h
    · cases h
  | .pass, fl, st, r, h, flo, hf => by unfold MS.chkB at h; cases h
  | .brk, fl, st, r, h, flo, hf => by unfold MS.chkB at h; cases h
  | .cont, fl, st, r, h, flo, hf => by unfold MS.chkB at h; cases h
  | .retN, fl, st, r, h, flo, hf => by unfold MS.chkB at h; cases h
  | .ret _, fl, st, r, h, flo, hf => by unfold MS.chkB at h; cases h
  | .set _ _, fl, st, r, h, flo, hf => by unfold MS.chkB at h; cases h
  | .par _ _ _, fl, st, r, h, flo, hf => by unfold MS.chkB at h; cases h
  | .asg _ _, fl, st, r, h, flo, hf => by unfold MS.chkB at h; cases h
  | .asgs _ _, fl, st, r, h, flo, hf => by unfold MS.chkB at h; cases h
  | .app _ _, fl, st, r, h, flo, hf => by unfold MS.chkB at h; cases h
  | .expr _, fl, st, r, h, flo, hf => by unfold MS.chkB at h; cases h
  | .ifs _ _ _, fl, st, r, h, flo, hf => by unfold MS.chkB at h; cases h
  | .for_ _ _ _, fl, st, r, h, flo, hf => by unfold MS.chkB at h; cases h
  | .whl _ _ _, fl, st, r, h, flo, hf => by unfold MS.chkB at h; cases h
  | .raise_ _ _, fl, st, r, h, flo, hf => by unfold MS.chkB at h; cases h
  | .raiseT _, fl, st, r, h, flo, hf => by unfold MS.chkB at h; cases h
  | .try_ _ _ _ _ _, fl, st, r, h, flo, hf => by unfold MS.chkB at h; cases h
  | .drop _ _, fl, st, r, h, flo, hf => by unfold MS.chkB at h; cases h
end
end
end MW
end
section
set_option Elab.async false
set_option autoImplicit false
set_option maxRecDepth 100000
set_option maxHeartbeats 1000000
/-! MW37: a def of the text, by its AST. -/
namespace MW
open PySem PySem.Spec PyProof.Rows L2
/-- what the module says: the defs (to be called with room k), constants, classes of errors -/
structure Mdl (Pg : Program) (wd : World) (K : PySem.W.Frag) (mg : Str → Option Value) (base : Heap) (k : Nat) (P : Pm) (B : Tb) (C : Ck) : Prop where
  hP : P.K = K
  sm : ∃ o, base.get? sysModules = some o
  fns : ∀ f x, C.fn f = some x → (∃ (fa : Addr) (fd : FuncData) (ps : List Str), FnG Pg wd K mg base k fa fd ps (spM P (B.fn f)) ∧ mg x = some (.ref fa) ∧ PySem.W.keepIn K (.ref fa) = true ∧ Binds K fd ps []) ∧ (x == ("__debug__" : Str)) = false
  gls : ∀ j x, C.gl j = some x → (∃ u v, mg x = some u ∧ RelV v u ∧ ∀ G am, Rp P G am v (B.gl j)) ∧ (x == ("__debug__" : Str)) = false
  blt : ∀ b : Bt, mg b.name = none
  tys : ∀ t : Ty, mg (Str.ofString t.py) = none
  isi : mg "isinstance" = none
  rng : mg "range" = none
  lst : mg "list" = none
  enu : mg "enumerate" = none
  exo : ∀ j C n, P.exc j = some (C, n) → ExFacts K C ∧ ∀ m, n = some m → PySem.W.findIn K (.ref C) m = some none
  exn : ∀ j C m, P.exc j = some (C, m) → m = B.enm j
  mks : ∀ j x, C.ex j = some x → (∃ (C fI : Addr) (n : Str) (fd : FuncData) (ps : List Str) (i : Nat), i + 1 ≤ k ∧ P.exc j = some (C, some n) ∧ OexG K C ∧ PySem.W.findIn K (.ref C) "__init__" = some (some (.ref fI)) ∧ PySem.W.typeIn K (.ref fI) = some (.type "function") ∧
    FnOk Pg wd K mg base (L2.CX Pg wd) i fI fd ps (spInit K C n) ∧ Binds K fd ps [] ∧ mg x = some (.ref C)) ∧ (x == ("__debug__" : Str)) = false
  mkt : ∀ j x, C.ex0 j = some x → (∃ C : Addr, P.exc j = some (C, none) ∧ PySem.W.excIn K C [.type "ValueError", .type "Exception", .type "BaseException", .type "object"] "ValueError.__new__" = true ∧ mg x = some (.ref C) ∧ PySem.W.keepIn K (.ref C) = true ∧ PySem.W.subIn K (.ref C) (.type "BaseException") = some true ∧ PySem.W.typeIn K (.ref C) = some (.type "type")) ∧ (x == ("__debug__" : Str)) = false
  tgt : ∀ t x, C.tg t = some x → ∃ cv, ((mg x = some cv ∧ ∃ a, cv = .ref a) ∨ (mg x = none ∧ bootBuiltins x = some cv ∧ x ≠ "__name__" ∧ ∃ T, cv = .type T)) ∧ (x == ("__debug__" : Str)) = false ∧
    ∀ j C' n b, P.exc j = some (C', n) → B.isx t j = some b → PySem.W.kitOne K (.ref C') cv = some b ∧ PySem.W.exmOne K (.ref C') cv = some b
section
variable {Pg : Program} {wd : World} {K : PySem.W.Frag} {mg : Str → Option Value} {base : Heap} {k : Nat} {P : Pm} {B : Tb} {C : Ck}
theorem gs_of (m : Mdl Pg wd K mg base k P B C) {N : List Str} {sc : Scope} {c : Ct} (h : Here Pg wd K mg base k N sc P c) (hN : C.N = N) : Gs B C sc c := by
  obtain ⟨ok, ps, pg, hwd, hK, hmg, hbs, hNc, hsc, rm, hP, hfn, stk, frm, kd⟩ := h
  subst pg hwd hK hmg hbs hP hNc
  refine ⟨⟨ok, hN.symm, by rw [hsc]; exact ScR.refl sc, fun x _ => by rw [hfn], fun f x e => ?_, m.gls, m.blt, m.tys, m.isi, m.rng, m.lst, m.enu, ⟨m.exo⟩, m.exn, fun j x e => ?_, fun j x e => ⟨(m.mkt j x e).1, (m.mkt j x e).2⟩, m.tgt⟩, hsc, by rw [← hsc]; exact kd, stk, frm, ps⟩
  · obtain ⟨⟨fa, fd, ps', h1, h2, h3, h4⟩, h5⟩ := m.fns f x e
    exact ⟨⟨fa, fd, ps', k, h1, rm, h2, h3, h4⟩, h5⟩
  · obtain ⟨⟨C', fI, n, fd, ps', i, h0, h1, h2, h3, h4, h5, h6, h7⟩, h8⟩ := m.mks j x e
    exact ⟨⟨C', fI, n, fd, ps', i, h1, h2, h3, h4, h5, rm.mono h0, h6, h7⟩, h8⟩
/-- THE RULE -/
theorem fn_snd (m : Mdl Pg wd K mg base k P B C) {f : Addr} {fd : FuncData} {x qual : Str} {st : Stmt} {N ps : List Str} {a : MS} {r : Option Fls} (F : Fun K x qual st f fd) (S : FnScope N ps (defScope st)) (hN : C.N = N) (hnp : ps.length ≤ N.length)
    (h : a.chkB C (defScope st) [] (noFl N.length) (defBody st) = some r) : FnG Pg wd K mg base (k + 1) f fd ps (spM P (defF ps.length N.length (a.run B))) := by
  refine fn_body F S m.hP m.sm hnp fun c hc => ?_
  cases r with
  | none => exact ⟨[], [], MS.sndB (gs_of m hc hN) h [] (fun f q => nomatch q)⟩
  | some fl => exact ⟨fl, [], MS.sndB (gs_of m hc hN) h fl fun _ q => by cases q; rfl⟩
end
end MW
end
section
set_option Elab.async false
set_option autoImplicit false
set_option maxRecDepth 100000
set_option maxHeartbeats 1000000
/-! MW38: the law's call, for a promise by data; levels of calls. -/
namespace MW
open PySem PySem.Spec PyProof.Rows L2
section
variable {Pg : Program} {w : World} {K : PySem.W.Frag} {mg mb : Str → Option Value} {a : Addr} {s1 : Shared} {vs : List Value} {ns : List Int}
/-- what is known of the heap ahead of the law's call -/
structure Begin (K : PySem.W.Frag) (mg mb : Str → Option Value) (a : Addr) (vs : List Value) (ns : List Int) (s1 : Shared) : Prop where
  kin : K.In s1.heap
  glob : s1.heap.Ns mainGlobals mg
  blt : s1.heap.Ns builtinsNs mb
  boot : ∀ x : Str, x ≠ "__name__" → mb x = bootBuiltins x
  lim : s1.heap.NoLimit
  gens : s1.gens = #[]
  mods : ∃ mm, s1.heap.Ns sysModules mm
  obj : s1.heap.get? a = some { cls := .type "list", data := .seq vs.toArray }
  nums : IntsAre vs ns
  most : ns.length ≤ 63
/-- the script alone is told, where it is not one of the module's own objects -/
def scrH (K : PySem.W.Frag) (a : Addr) (vs : List Value) (ns : List Int) : Hp := fun b => if b = a ∧ K.lookup a = none then some (.frz { cls := .type "list", data := .seq vs.toArray } (.lst (ns.map V.int))) else none
theorem scrH_some {b : Addr} {u : HO} (h : scrH K a vs ns b = some u) : b = a ∧ K.lookup a = none ∧ u = .frz { cls := .type "list", data := .seq vs.toArray } (.lst (ns.map V.int)) := by
  unfold scrH at h
  split at h
  · rename_i q; cases h; exact ⟨q.1, q.2, rfl⟩
  · cases h
variable (Z : Begin K mg mb a vs ns s1)
include Z
theorem Begin.small : ns.length ≤ sizeLine := by have := Z.most; rw [sizeLine_eq]; omega
theorem Begin.hok : HOk Pg w (scrH K a vs ns) s1.heap := fun b u h => by
  obtain ⟨rfl, _, rfl⟩ := scrH_some h
  refine ⟨Z.obj, ?_, vs, 0, vals_ints Z.nums, Z.obj⟩
  rw [List.length_map]; exact Z.small
theorem Begin.sq : SqL K (scrH K a vs ns) a (ns.map V.int) := by
  by_cases q : K.lookup a = none
  · exact .inl (.inr ⟨_, if_pos ⟨rfl, q⟩⟩)
  · obtain ⟨o, ho⟩ := Option.ne_none_iff_exists'.mp q
    have e := Z.kin a o ho
    rw [Z.obj] at e
    cases e
    have hl := Z.nums.length
    refine .inr ⟨_, vs.toArray, _, ho, rfl, rfl, rfl, ?_, ?_⟩
    · rw [List.size_toArray, hl]; exact Z.small
    · simpa using vals_ints Z.nums
/-- dicts of the heap are not the script -/
theorem Begin.nsAt {b : Addr} {m : Str → Option Value} (h : s1.heap.Ns b m) : (hidT s1.heap (scrH K a vs ns)).Ns b m := by
  obtain ⟨o, es, ep, e, hd, r⟩ := h
  refine ⟨o, es, ep, hidT_get e ?_, hd, r⟩
  cases q : scrH K a vs ns b with
  | none => rfl
  | some u =>
    obtain ⟨rfl, _, _⟩ := scrH_some q
    rw [Z.obj] at e
    cases e
    cases hd
theorem Begin.kinAt : K.In (hidT s1.heap (scrH K a vs ns)) := fun b o e => hidT_get (Z.kin b o e) (by
  cases q : scrH K a vs ns b with
  | none => rfl
  | some u =>
    obtain ⟨rfl, hk, _⟩ := scrH_some q
    rw [hk] at e
    cases e)
theorem Begin.smAt : ∃ o, (hidT s1.heap (scrH K a vs ns)).get? sysModules = some o := by
  obtain ⟨mm, h⟩ := Z.mods
  obtain ⟨o, _, _, e, _⟩ := Z.nsAt h
  exact ⟨o, e⟩
theorem law_callG {k : Nat} {fa : Addr} {x : Str} {P : Pm} {m : List D → M D} {w' : Wd} (hP : P.K = K) (hr : Room k callerA)
    (F : ∀ base : Heap, K.In base → base.Ns mainGlobals mg → (∃ o, base.get? sysModules = some o) → ∃ fd : FuncData, FnG Pg w K mg base k fa fd [x] (spM P m) ∧ Binds K fd [x] [])
    (hrun : m [.scr ns] ⟨none⟩ = .ok (.bl true) w') :
    codeAny (model Pg w) callerA (.call (.ref fa) ⟨[.ref a], []⟩) (fun r s' => r = .ok (.ret (.bool true)) ∧ OldK s1.heap s'.heap ∧ s'.os = s1.os ∧ AllBare s'.gens) s1 := by
  have e0 : Env0 Pg w K mg (hidT s1.heap (scrH K a vs ns)) callerA [] s1 (scrH K a vs ns) :=
    { frames := rfl, mod := ⟨Z.kinAt, Z.nsAt Z.glob, ⟨mb, Z.nsAt Z.blt, Z.boot⟩, let ⟨mc, q1, q2⟩ := Z.lim; ⟨mc, Z.nsAt q1, q2⟩⟩, bs := fun _ _ q => of_hidT q, bsz := Nat.le_of_eq (hidT_size _ _), funs := trivial,
      frf := fun b q => (by cases (show b ∈ ([] : List Addr) from q)), hok := Z.hok, bare := .of_eq Z.gens }
  have lay : Lay P ⟨scrH K a vs ns, fun _ => none, fun _ => none, ⟨none⟩⟩ (scrH K a vs ns) := ⟨fun _ _ q => q, fun _ _ q => (nomatch q), fun _ _ _ => rfl, ⟨rfl, rfl⟩⟩
  have sp : spM P m [.ref a] (scrH K a vs ns) (fun v _ => v = .bl true) fun _ _ _ => False := by
    refine ⟨⟨scrH K a vs ns, fun _ => none, fun _ => none, ⟨none⟩⟩, [.scr ns], lay, .cons (.scr (hP ▸ Z.sq)) .nil, ?_⟩
    show Res P _ _ _ (m [.scr ns] ⟨none⟩) _
    rw [hrun]
    intro g' H' _ _ _ v hv
    cases hv
    rfl
  obtain ⟨fd, F', hb'⟩ := F _ Z.kinAt (Z.nsAt Z.glob) Z.smAt
  have hb := hb' s1 [.ref a] Z.kin rfl
  refine codeAny_mono (F'.run callerA [] s1 _ ⟨[.ref a], []⟩ [.ref a] [.ref a] _ _ hr rfl e0 hb (.cons rfl .nil) sp) fun r s' h => ?_
  match r, h with
  | .ok (.ret u), ⟨v, H', os, bare, un, hok', rv, ev⟩ =>
    have ev' : v = .bl true := ev
    subst ev'
    have eu : u = Value.bool true := rv
    subst eu
    refine ⟨rfl, OldK.of_keep fun b o e => ?_, os, bare⟩
    cases q : scrH K a vs ns b with
    | none => exact un.keep b o e q (fun z => (nomatch z)) (fun z => (nomatch z))
    | some u =>
      obtain ⟨rfl, _, rfl⟩ := scrH_some q
      have e2 := (hok' b _ (un.frzs b _ _ q)).1
      rw [Z.obj] at e
      cases e
      exact e2
  | .ok .next, h => exact False.elim h
  | .ok .brk, h => exact False.elim h
  | .ok .cont, h => exact False.elim h
  | .error e, h =>
    obtain ⟨_, _, _, _, _, _, _, _, _, _, _, _, q⟩ := h
    exact q.elim
end
end MW
end
section
set_option Elab.async false
set_option autoImplicit false
set_option maxRecDepth 100000
set_option maxHeartbeats 1000000
/-! MW39: what the module says, read off the written part by one Boolean. -/
namespace MW
open PySem PySem.Spec PyProof.Rows L2

/-! ### a def of the module -/
def adr (K : PySem.W.Frag) (x : Str) : Option Addr := match PySem.W.nsIn K mainGlobals x with
  | some (some (.ref a)) => some a
  | _ => none
def fnAt (K : PySem.W.Frag) (f : Addr) (x q : Str) : Option (Arguments × List Stmt × Scope) := match K.lookup f with
  | some ⟨_, _, .func ⟨nm, qn, params, .stmts body, scope, gl, [], .none, _, _, _, _, cdv, _, bl⟩, _⟩ =>
    if (nm == x && qn == q && gl == mainGlobals && bl == builtinsNs && PySem.W.codeIn K cdv q && PySem.W.keepIn K (.ref f)) = true then some (params, body, scope) else none
  | _ => none
/-- the def as a statement -/
def asDef (x : Str) (ps : Arguments) (body : List Stmt) (sc : Scope) : Stmt := .FunctionDef x ps body [] none [] sc none x ⟨0, 0, 0, 0⟩
theorem fnAt_fun {K : PySem.W.Frag} {f : Addr} {x q : Str} {ps : Arguments} {body : List Stmt} {sc : Scope} (h : fnAt K f x q = some (ps, body, sc)) :
    ∃ (fd : FuncData) (kV doc pm : Value) (an : Option Addr) (cdv ct : Value), fd = PySem.W.fnOf x q ps body sc .none kV doc pm an cdv ct ∧ Fun K x q (asDef x ps body sc) f fd := by
  unfold fnAt at h
  split at h
  · rename_i c dd nm qn params body' scope gl kV doc pm an cdv ct bl sl ho
    split at h
    · rename_i hb
      cases h
      simp only [Bool.and_eq_true, beq_iff_eq] at hb
      obtain ⟨⟨⟨⟨⟨rfl, rfl⟩, rfl⟩, rfl⟩, hc⟩, hk⟩ := hb
      exact ⟨_, kV, doc, pm, an, cdv, ct, rfl, ⟨⟨c, dd, kV, doc, pm, an, cdv, ct, sl, rfl, ho, hc⟩, hk⟩⟩
    · cases h
  · cases h
def nodupB : List Str → Bool
  | [] => true
  | x :: l => !l.contains x && nodupB l
theorem nodupB_ok : ∀ {l : List Str}, nodupB l = true → l.Nodup
  | [], _ => List.nodup_nil
  | x :: l, h => by
    unfold nodupB at h
    simp only [Bool.and_eq_true, Bool.not_eq_true'] at h
    refine List.nodup_cons.mpr ⟨fun z => ?_, nodupB_ok h.2⟩
    rw [List.contains_iff_mem.mpr z] at h
    cases h.1
theorem lookup_zip : ∀ {ps : List Str} {us : List Value} (n : Str), ps.length = us.length → n ∈ ps → ((ps.zip us).lookup n).isNone = false
  | p :: ps, u :: us, n, hl, hn => by
    rw [List.zip_cons_cons, List.lookup_cons]
    cases e : n == p with
    | true => rfl
    | false =>
      have hn' : n ∈ ps := by
        rcases List.mem_cons.mp hn with z | z
        · rw [z] at e; simp at e
        · exact z
      exact lookup_zip n (Nat.succ.inj hl) hn'
theorem fm_zip : ∀ {ps : List Str} {us : List Value}, ps.length = us.length → ps.Nodup → ps.filterMap (fun n => ((ps.zip us).lookup n).map fun x => (n, x)) = ps.zip us
  | [], [], _, _ => rfl
  | p :: ps, u :: us, hl, hn => by
    have hn' := List.nodup_cons.mp hn
    rw [List.zip_cons_cons, List.filterMap_cons]
    have e : (((p, u) :: ps.zip us).lookup p) = some u := by rw [List.lookup_cons]; simp
    rw [e]
    show (p, u) :: _ = _
    congr 1
    have ih := fm_zip (Nat.succ.inj hl) hn'.2
    rw [← ih]
    have : ∀ m ∈ ps, (((p, u) :: ps.zip us).lookup m) = (ps.zip us).lookup m := fun m hm => by
      rw [List.lookup_cons]
      have : (m == p) = false := by
        cases e : m == p with
        | false => rfl
        | true => rw [beq_iff_eq] at e; subst e; exact absurd hm hn'.1
      rw [this]
    rw [ih]
    have gen : ∀ l : List Str, (∀ n ∈ l, n ∈ ps) → l.filterMap (fun n => (((p, u) :: ps.zip us).lookup n).map fun x => (n, x)) = l.filterMap (fun n => ((ps.zip us).lookup n).map fun x => (n, x)) := fun l => by
      induction l with
      | nil => intro _; rfl
      | cons a l ihl =>
        intro h
        rw [List.filterMap_cons, List.filterMap_cons, this a (h a List.mem_cons_self), ihl fun n hn => h n (List.mem_cons_of_mem _ hn)]
    rw [gen ps fun _ h => h, ih]
theorem binds_args0 {x q : Str} {l : List Arg} {body : List Stmt} {sc : Scope} {kV doc pm : Value} {an : Option Addr} {cdv ct : Value} (us : List Value) (hl : us.length = l.length) (hn : (l.map (·.arg)).Nodup) :
    bindArgs (PySem.W.fnOf x q ⟨[], l, none, [], [], none, []⟩ body sc .none kV doc pm an cdv ct) ⟨us, []⟩ = pure ((l.map (·.arg)).zip us) := by
  have hm : ((l.map (·.arg)).filter fun n => (((l.map (·.arg)).zip us).lookup n).isNone) = [] := by
    rw [List.filter_eq_nil_iff]
    intro n hn
    rw [lookup_zip n (by simp [hl]) hn]
    simp
  have ht : (l.map (·.arg)).take (l.map (·.arg)).length = l.map (·.arg) := List.take_length
  have hd : (l.map (·.arg)).drop (l.map (·.arg)).length = [] := List.drop_length
  have hf := fm_zip (ps := l.map (·.arg)) (us := us) (by simp [hl]) hn
  rw [List.filterMap_map] at hf
  unfold bindArgs
  have hs : seqItems? Value.none = pure none := rfl
  simp [hl, hs]
  refine (if_neg ?_).trans ?_
  · have e : ((List.map (fun x : Arg => x.arg) [] ++ List.map (fun x => x.arg) l).length - (List.drop ((#[] : Array Value).size - (List.map (fun x : Arg => x.arg) [] ++ List.map (fun x => x.arg) l).length) ([] : List Value)).length) = (l.map (·.arg)).length := by simp
    rw [e, List.map_nil, List.nil_append, ht, hm]
    simp
  · rw [hf]
def argsOk : Arguments → List Str → Bool
  | ⟨[], l, none, [], [], none, []⟩, ps => decide (l.map (·.arg) = ps) && nodupB ps
  | _, _ => false
theorem binds_args {x q : Str} {ps : Arguments} {body : List Stmt} {sc : Scope} {kV doc pm : Value} {an : Option Addr} {cdv ct : Value} {N : List Str} (h : argsOk ps N = true) (us : List Value) (hl : us.length = N.length) :
    bindArgs (PySem.W.fnOf x q ps body sc .none kV doc pm an cdv ct) ⟨us, []⟩ = pure (N.zip us) := by
  unfold argsOk at h
  split at h
  · rename_i l N'
    rw [Bool.and_eq_true, decide_eq_true_eq] at h
    obtain ⟨rfl, h8⟩ := h
    rw [List.length_map] at hl
    exact binds_args0 us hl (nodupB_ok h8)
  · cases h
def scopeB (N ps : List Str) (sc : Scope) : Bool :=
  decide (sc.kind = .function) && !sc.isCoroutine && !sc.isGenerator && nodupB N && decide (N.take ps.length = ps) && (ps.all fun x => decide (sc.names.lookup x = some .local) || decide (sc.names.lookup x = some .cell)) && (sc.names.all fun y => !decide (y.2 = .free))
theorem scopeB_ok {N ps : List Str} {sc : Scope} (h : scopeB N ps sc = true) : FnScope N ps sc := by
  unfold scopeB at h
  simp only [Bool.and_eq_true, decide_eq_true_eq, Bool.not_eq_true', List.all_eq_true, Bool.or_eq_true, decide_eq_false_iff_not] at h
  obtain ⟨⟨⟨⟨⟨⟨h1, h2⟩, h3⟩, h4⟩, h5⟩, h6⟩, h7⟩ := h
  exact ⟨h1, h2, h3, nodupB_ok h4, h5, h6, h7⟩

/-! ### the module's table -/
/-- a def: its name, its slots, how many of them are parameters, its AST -/
structure FnD where
  x : Str
  N : List Str
  n : Nat
  a : MS
/-- a class of errors: its name, its attribute, whose __init__ it calls -/
structure ExD where
  x : Str
  n : Option Str
  b : Str
/-- a constant of the module -/
inductive GlD where
  | int (i : Int) | str (x : Str) | strs (l : List Str) | nums (l : List Int)
def GlD.d : GlD → D
  | .int i => .int i
  | .str x => .str x
  | .strs l => .tup (l.map .str)
  | .nums l => .tup (l.map .int)
/-- defs, constants, classes of errors, classes that are asked for (with what is known of the errors), all by number -/
structure MD where
  defs : List (Nat × FnD)
  gls : List (Nat × Str × GlD)
  exs : List (Nat × ExD)
  tgs : List (Nat × Str × List (Nat × Bool))
theorem lookup_mem {α : Type} : ∀ {l : List (Nat × α)} {i : Nat} {x : α}, l.lookup i = some x → (i, x) ∈ l
  | (j, y) :: l, i, x, h => by
    rw [List.lookup_cons] at h
    split at h
    · rename_i e
      cases h
      rw [beq_iff_eq.mp e]
      exact List.mem_cons_self
    · exact List.mem_cons_of_mem _ (lookup_mem h)
def MD.ck (M : MD) (N : List Str) : Ck := { N := N, ex0 := fun i => (M.exs.lookup i).bind fun e => if e.n.isSome then none else some e.x, fn := fun i => (M.defs.lookup i).map (·.x), gl := fun i => (M.gls.lookup i).map (·.1), ex := fun i => (M.exs.lookup i).bind fun e => if e.n.isSome then some e.x else none, tg := fun i => (M.tgs.lookup i).map (·.1) }
def MD.pm (M : MD) (K : PySem.W.Frag) : Pm := { K := K, cls := fun _ => none, exc := fun j => (M.exs.lookup j).bind fun e => (adr K e.x).map fun C => (C, e.n) }
def MD.tb (M : MD) : Nat → Tb
  | 0 => { fn := fun _ _ => _root_.MW.M.bad, gl := fun i => ((M.gls.lookup i).map (·.2.d)).getD .non, enm := fun j => (M.exs.lookup j).bind (·.n), isx := fun t j => (M.tgs.lookup t).bind (·.2.lookup j) }
  | l + 1 => { fn := fun f ds => match M.defs.lookup f with | some d => defF d.n d.N.length (d.a.run (MD.tb M l)) ds | none => _root_.MW.M.bad, gl := fun i => ((M.gls.lookup i).map (·.2.d)).getD .non, enm := fun j => (M.exs.lookup j).bind (·.n), isx := fun t j => (M.tgs.lookup t).bind (·.2.lookup j) }

/-! ### the Booleans -/
def FnD.ok (C : Ck) (K : PySem.W.Frag) (d : FnD) : Bool := !(d.x == ("__debug__" : Str)) && match adr K d.x with
  | some f => (match fnAt K f d.x d.x with
    | some (ps, body, sc) => argsOk ps (d.N.take d.n) && scopeB d.N (d.N.take d.n) sc && decide (d.n ≤ d.N.length) && (d.a.chkB { C with N := d.N } sc [] (noFl d.N.length) body).isSome
    | none => false)
  | none => false
def valOk (K : PySem.W.Frag) : GlD → Value → Bool
  | .int i, .int j _ => decide (i = j)
  | .str x, .str y _ => decide (x = y)
  | .strs l, .ref a => (match K.lookup a with
    | some ⟨.type "tuple", _, .seq its _, _⟩ => decide (its.toList.map absV = l.map fun x => some (.str x)) && decide (its.toList.length ≤ 1000)
    | _ => false)
  | .nums l, .ref a => (match K.lookup a with
    | some ⟨.type "tuple", _, .seq its _, _⟩ => decide (its.toList.map absV = l.map fun x => some (.int x)) && decide (its.toList.length ≤ 1000)
    | _ => false)
  | _, _ => false
def glOk (K : PySem.W.Frag) (p : Str × GlD) : Bool := !(p.1 == ("__debug__" : Str)) && match PySem.W.nsIn K mainGlobals p.1 with
  | some (some v) => valOk K p.2 v
  | _ => false
def freeNames : List Str := ["len", "int", "max", "min", "sum", "all", "any", "tuple", "repr", "sorted", "bool", "str", "list", "dict", "isinstance", "range", "enumerate"]
def initOk (K : PySem.W.Frag) (C : Addr) (m b : Str) (q : Str) : Bool := match PySem.W.findIn K (.ref C) "__init__" with
  | some (some (.ref fI)) => (PySem.W.typeIn K (.ref fI) == some (.type "function")) && (match fnAt K fI "__init__" q with
    | some (ps, body, sc) => argsOk ps ["self", m] && scopeB ["self", m] ["self", m] sc && initB b m "self" body && initC b m "self" sc
    | none => false)
  | _ => false
def oexKOk (K : PySem.W.Frag) (C : Addr) : Bool := (match K.lookup C with
    | some ⟨.type "type", _, .cls cd, sl⟩ => (match cd.mro, sl.toList with
      | .ref C' :: bm, [_, _, _, _, some (.builtin n), _] => C' == C && n == "LookupError.__new__" && !cd.hasDel && cd.hasDict && PySem.W.excTail keyTail bm
      | _, _ => false)
    | _ => false) && PySem.W.findIn K (.ref C) "__setattr__" == some (some (.builtin "object.__setattr__")) && PySem.W.subIn K (.ref C) (.type "BaseException") == some true && PySem.W.typeIn K (.ref C) == some (.type "type") && PySem.W.keepIn K (.ref C)
def oexOk (K : PySem.W.Frag) (C : Addr) : Bool := (match K.lookup C with
    | some ⟨.type "type", _, .cls cd, sl⟩ => (match cd.mro, sl.toList with
      | .ref C' :: bm, [_, _, _, _, some (.builtin n), _] => C' == C && n == "ValueError.__new__" && !cd.hasDel && cd.hasDict && PySem.HandSPX.refsVE bm
      | _, _ => false)
    | _ => false) && PySem.W.findIn K (.ref C) "__setattr__" == some (some (.builtin "object.__setattr__")) && PySem.W.subIn K (.ref C) (.type "BaseException") == some true && PySem.W.typeIn K (.ref C) == some (.type "type") && PySem.W.keepIn K (.ref C)
def exfOk (K : PySem.W.Frag) (C : Addr) : Bool :=
  PySem.W.findIn K (.ref C) "__getattribute__" == some (some (.builtin "BaseException.__getattribute__")) && PySem.W.findIn K (.ref C) "__getattr__" == some none && PySem.W.subIn K (.ref C) (.type "BaseException") == some true && PySem.W.hasDictIn K C && (PySem.W.clsIn K C).isSome &&
  PySem.W.findIn K (.ref C) "__class__" == some (some (.builtin "object.__class__")) && PySem.W.specialIn K (.builtin "object.__class__") "__get__" == some (some (.builtin "getset_descriptor.__get__")) && PySem.W.takesIn K (.builtin "object.__class__") == some true && PySem.W.mroIn K C (.type "object") == some true
/-- the base whose __init__ is called: an own class without one, or KeyError -/
def baseOk (K : PySem.W.Frag) (b : Str) (i : String) : Bool := !(b == ("__debug__" : Str)) && match adr K b with
  | some W => PySem.W.readsIn K W (.type "type") && PySem.W.specialIn K (.ref W) "__getattribute__" == some (some (.builtin "type.__getattribute__")) && (match PySem.W.findCls K (.ref W) (.type "type") "__init__" with
    | some (.val v) => v == .builtin i
    | _ => false)
  | none => b == ("KeyError" : Str) && i == "KeyError.__init__" && PySem.W.nsIn K mainGlobals b == some none && (match PySem.W.findCls K (.type "KeyError") (.type "type") "__init__" with
    | some (.val v) => v == .builtin "KeyError.__init__"
    | _ => false)
/-- made with a text -/
def exTOk (K : PySem.W.Frag) (C : Addr) : Bool := PySem.W.excIn K C [.type "ValueError", .type "Exception", .type "BaseException", .type "object"] "ValueError.__new__" && PySem.W.keepIn K (.ref C) && PySem.W.subIn K (.ref C) (.type "BaseException") == some true && PySem.W.typeIn K (.ref C) == some (.type "type")
def ExD.ok (K : PySem.W.Frag) (e : ExD) : Bool := !(e.x == ("__debug__" : Str)) && match adr K e.x with
  | some C => exfOk K C && (match e.n with
    | some m => PySem.W.findIn K (.ref C) m == some none && initOk K C m e.b (e.x ++ ("." : Str) ++ ("__init__" : Str)) && (oexOk K C && baseOk K e.b "ValueError.__init__" || oexKOk K C && baseOk K e.b "KeyError.__init__") && !(m == ("__debug__" : Str)) && !(m == ("__classdict__" : Str))
    | none => exTOk K C)
  | none => false
def tgVal (K : PySem.W.Frag) (x : Str) : Option Value := match PySem.W.nsIn K mainGlobals x with
  | some (some (.ref a)) => some (.ref a)
  | some none => (match bootBuiltins x with
    | some (.type T) => some (.type T)
    | _ => none)
  | _ => none
def tgOk (K : PySem.W.Frag) (exs : List (Nat × ExD)) (t : Nat × Str × List (Nat × Bool)) : Bool := !(t.2.1 == ("__debug__" : Str)) && !(t.2.1 == ("__name__" : Str)) && match tgVal K t.2.1 with
  | some cv => t.2.2.all fun r => match (exs.lookup r.1).bind fun e => adr K e.x with
    | some C => PySem.W.kitOne K (.ref C) cv == some r.2 && PySem.W.exmOne K (.ref C) cv == some r.2
    | none => true
  | none => false
def MD.ok (M : MD) (K : PySem.W.Frag) : Bool :=
  M.defs.all (fun d => d.2.ok (M.ck []) K) && M.gls.all (fun p => glOk K p.2) && freeNames.all (fun x => PySem.W.nsIn K mainGlobals x == some none) && M.exs.all (fun e => e.2.ok K) && M.tgs.all (tgOk K M.exs)

/-! ### from the Booleans -/
section
variable {K : PySem.W.Frag} {h : Heap} {mg : Str → Option Value} {Pg : Program} {wd : World} {base : Heap}
theorem adr_mg (X : K.In h) (G : h.Ns mainGlobals mg) {x : Str} {a : Addr} (e : adr K x = some a) : mg x = some (.ref a) := by
  unfold adr at e
  split at e
  · cases e
    exact PySem.W.mg_of X G (by assumption)
  · cases e
theorem absV_rel {u : Value} {v : V} (e : absV u = some v) : RelV v u := by
  cases u <;> first | (cases e; first | rfl | exact ⟨_, rfl⟩) | cases e
theorem vals_abs : ∀ {its : List Value} {vs : List V}, its.map absV = vs.map some → Vals vs its
  | [], [], _ => .nil
  | u :: us, v :: vs, e => by
    rw [List.map_cons, List.map_cons] at e
    injection e with e1 e2
    exact .cons (absV_rel e1) (vals_abs e2)
  | [], _ :: _, e => by cases e
  | _ :: _, [], e => by cases e
theorem rps_map {P : Pm} {G : Hp} {am : Nat → Option Addr} {α : Type} (f : α → V) (g : α → D) (h : ∀ x, Rp P G am (f x) (g x)) : ∀ l : List α, Rps P G am (l.map f) (l.map g)
  | [] => .nil
  | x :: l => .cons (h x) (rps_map f g h l)
theorem valOk_rp {P : Pm} (hP : P.K = K) {d : GlD} {u : Value} (e : valOk K d u = true) : ∃ v, RelV v u ∧ ∀ G am, Rp P G am v d.d := by
  unfold valOk at e
  split at e
  · rename_i i j t
    have := of_decide_eq_true e
    subst this
    exact ⟨.int i, ⟨t, rfl⟩, fun _ _ => .int i⟩
  · rename_i x y t
    have := of_decide_eq_true e
    subst this
    exact ⟨.str x, ⟨t, rfl⟩, fun _ _ => .str x⟩
  · rename_i l a
    split at e
    · rename_i dd its n sl ho
      rw [Bool.and_eq_true, decide_eq_true_eq, decide_eq_true_eq] at e
      refine ⟨.ref a, rfl, fun G am => .tup (vs := l.map V.str) (.inr ⟨_, its, n, by rw [hP]; exact ho, rfl, rfl, ?_, vals_abs (by rw [e.1, List.map_map]; rfl)⟩) (rps_map V.str D.str (fun x => .str x) l)⟩
      have := e.2
      rw [sizeLine_eq, ← Array.length_toList]; omega
    · cases e
  · rename_i l a
    split at e
    · rename_i dd its n sl ho
      rw [Bool.and_eq_true, decide_eq_true_eq, decide_eq_true_eq] at e
      refine ⟨.ref a, rfl, fun G am => .tup (vs := l.map V.int) (.inr ⟨_, its, n, by rw [hP]; exact ho, rfl, rfl, ?_, vals_abs (by rw [e.1, List.map_map]; rfl)⟩) (rps_map V.int D.int (fun x => .int x) l)⟩
      have := e.2
      rw [sizeLine_eq, ← Array.length_toList]; omega
    · cases e
  · cases e
theorem oex_of {C : Addr} (e : oexOk K C = true) : OexC K C := by
  unfold oexOk at e
  simp only [Bool.and_eq_true, beq_iff_eq] at e
  obtain ⟨⟨⟨⟨e0, e1⟩, e2⟩, e3⟩, e4⟩ := e
  refine ⟨?_, e1, e2, e3, e4⟩
  split at e0
  · rename_i dd cd sl ho
    split at e0
    · rename_i C' bm k0 k1 k2 k3 n k5 hm hs
      simp only [Bool.and_eq_true, beq_iff_eq, Bool.not_eq_true'] at e0
      obtain ⟨⟨⟨⟨rfl, rfl⟩, hdel⟩, hdi⟩, hr⟩ := e0
      obtain ⟨nm, bs, mro, ns, qn, hd, sn, sub, ab, col, del⟩ := cd
      dsimp only at hm hdel hdi
      subst hm hdel hdi
      have hsl : sl = #[k0, k1, k2, k3, some (.builtin "ValueError.__new__"), k5] := by
        obtain ⟨l⟩ := sl
        simp only at hs
        rw [hs]
      subst hsl
      exact ⟨nm, qn, ns, bs, bm, sn, sub, ab, col, dd, k0, k1, k2, k3, k5, ho, hr⟩
    · cases e0
  · cases e0
theorem oexK_of {C : Addr} (e : oexKOk K C = true) : OexK K C := by
  unfold oexKOk at e
  simp only [Bool.and_eq_true, beq_iff_eq] at e
  obtain ⟨⟨⟨⟨e0, e1⟩, e2⟩, e3⟩, e4⟩ := e
  refine ⟨?_, e1, e2, e3, e4⟩
  split at e0
  · rename_i dd cd sl ho
    split at e0
    · rename_i C' bm k0 k1 k2 k3 n k5 hm hs
      simp only [Bool.and_eq_true, beq_iff_eq, Bool.not_eq_true'] at e0
      obtain ⟨⟨⟨⟨rfl, rfl⟩, hdel⟩, hdi⟩, hr⟩ := e0
      obtain ⟨nm, bs, mro, ns, qn, hd, sn, sub, ab, col, del⟩ := cd
      dsimp only at hm hdel hdi
      subst hm hdel hdi
      have hsl : sl = #[k0, k1, k2, k3, some (.builtin "LookupError.__new__"), k5] := by
        obtain ⟨l⟩ := sl
        simp only at hs
        rw [hs]
      subst hsl
      exact ⟨nm, qn, ns, bs, bm, sn, sub, ab, col, dd, k0, k1, k2, k3, k5, ho, hr⟩
    · cases e0
  · cases e0
theorem exf_of {C : Addr} (e : exfOk K C = true) : ExFacts K C := by
  unfold exfOk at e
  simp only [Bool.and_eq_true, beq_iff_eq] at e
  obtain ⟨⟨⟨⟨⟨⟨⟨⟨e1, e2⟩, e3⟩, e4⟩, e5⟩, e6⟩, e7⟩, e8⟩, e9⟩ := e
  exact ⟨e1, e2, e3, e4, e5, e6, e7, e8, e9⟩
theorem base_of {b : Str} {i : String} (X : K.In h) (G : h.Ns mainGlobals mg) (e : baseOk K b i = true) : BaseX K mg b i ∧ (b == ("__debug__" : Str)) = false := by
  unfold baseOk at e
  rw [Bool.and_eq_true, Bool.not_eq_true'] at e
  obtain ⟨e0, e⟩ := e
  refine ⟨?_, e0⟩
  split at e
  · rename_i W hW
    simp only [Bool.and_eq_true, beq_iff_eq] at e
    obtain ⟨⟨e1, e2⟩, e3⟩ := e
    refine .inl ⟨W, adr_mg X G hW, ⟨e1, e2, ?_⟩⟩
    split at e3
    · rename_i v hv
      rw [hv, beq_iff_eq.mp e3]
    · cases e3
  · simp only [Bool.and_eq_true, beq_iff_eq] at e
    obtain ⟨⟨⟨e1, e2⟩, e3⟩, e4⟩ := e
    refine .inr ⟨e1, PySem.W.mg_none_of X G e3, e2, ?_⟩
    split at e4
    · rename_i v hv
      rw [hv, beq_iff_eq.mp e4]
    · cases e4
theorem init_of {C : Addr} {b : Str} (X : K.In h) (G : h.Ns mainGlobals mg) (e : (oexOk K C && baseOk K b "ValueError.__init__" || oexKOk K C && baseOk K b "KeyError.__init__") = true) : ∃ i : String, InitId K C i ∧ BaseX K mg b i ∧ PySem.W.handedIn (.builtin i) = true ∧ (b == ("__debug__" : Str)) = false := by
  rw [Bool.or_eq_true, Bool.and_eq_true, Bool.and_eq_true] at e
  rcases e with ⟨e1, e2⟩ | ⟨e1, e2⟩
  · obtain ⟨q1, q2⟩ := base_of X G e2
    exact ⟨_, .inl ⟨oex_of e1, rfl⟩, q1, by decide +kernel, q2⟩
  · obtain ⟨q1, q2⟩ := base_of X G e2
    exact ⟨_, .inr ⟨oexK_of e1, rfl⟩, q1, by decide +kernel, q2⟩
theorem tgVal_of {x : Str} {cv : Value} (X : K.In h) (G : h.Ns mainGlobals mg) (hn : (x == ("__name__" : Str)) = false) (e : tgVal K x = some cv) : (mg x = some cv ∧ ∃ a, cv = .ref a) ∨ (mg x = none ∧ bootBuiltins x = some cv ∧ x ≠ "__name__" ∧ ∃ T, cv = .type T) := by
  unfold tgVal at e
  split at e
  · cases e
    exact .inl ⟨PySem.W.mg_of X G (by assumption), _, rfl⟩
  · rename_i hx
    split at e
    · rename_i T hT
      cases e
      exact .inr ⟨PySem.W.mg_none_of X G hx, hT, (fun z => by rw [z] at hn; cases hn), T, rfl⟩
    · cases e
  · cases e
theorem tgOk_of {exs : List (Nat × ExD)} {t : Nat × Str × List (Nat × Bool)} (h : tgOk K exs t = true) : (t.2.1 == ("__debug__" : Str)) = false ∧ (t.2.1 == ("__name__" : Str)) = false ∧ ∃ cv, tgVal K t.2.1 = some cv ∧
    ∀ (j : Nat) (b : Bool) (e : ExD) (C : Addr), t.2.2.lookup j = some b → exs.lookup j = some e → adr K e.x = some C → PySem.W.kitOne K (.ref C) cv = some b ∧ PySem.W.exmOne K (.ref C) cv = some b := by
  unfold tgOk at h
  simp only [Bool.and_eq_true, Bool.not_eq_true'] at h
  obtain ⟨⟨h1, h2⟩, h3⟩ := h
  refine ⟨h1, h2, ?_⟩
  split at h3
  · rename_i cv hcv
    refine ⟨cv, hcv, fun j b e C e1 e2 e3 => ?_⟩
    have := List.all_eq_true.mp h3 _ (lookup_mem e1)
    simp only [e2, Option.bind_some, e3, Bool.and_eq_true, beq_iff_eq] at this
    exact this
  · cases h3
theorem MD.withN {M : MD} {P : Pm} {B : Tb} {k : Nat} {N N' : List Str} (h : Mdl Pg wd K mg base k P B (M.ck N)) : Mdl Pg wd K mg base k P B (M.ck N') :=
  ⟨h.hP, h.sm, h.fns, h.gls, h.blt, h.tys, h.isi, h.rng, h.lst, h.enu, h.exo, h.exn, h.mks, h.mkt, h.tgt⟩
section
variable {M : MD}
theorem MD.exc_of {j : Nat} {C : Addr} {n : Option Str} (e : (M.pm K).exc j = some (C, n)) : ∃ d, M.exs.lookup j = some d ∧ adr K d.x = some C ∧ d.n = n := by
  obtain ⟨d, h1, h2⟩ := Option.bind_eq_some_iff.mp (show ((M.exs.lookup j).bind fun e => (adr K e.x).map fun C => (C, e.n)) = some (C, n) from e)
  obtain ⟨C', h3, h4⟩ := Option.map_eq_some_iff.mp h2
  cases h4
  exact ⟨d, h1, h3, rfl⟩
theorem MD.fnG (X : K.In base) (G : base.Ns mainGlobals mg) (hs : ∃ o, base.get? sysModules = some o) (hok : M.ok K = true) {k l : Nat} (m : Mdl Pg wd K mg base k (M.pm K) (M.tb l) (M.ck [])) {i : Nat} {d : FnD} (hd : M.defs.lookup i = some d) :
    ∃ (fa : Addr) (fd : FuncData), FnG Pg wd K mg base (k + 1) fa fd (d.N.take d.n) (spM (M.pm K) ((M.tb (l + 1)).fn i)) ∧ mg d.x = some (.ref fa) ∧ PySem.W.keepIn K (.ref fa) = true ∧ Binds K fd (d.N.take d.n) [] ∧ (d.x == ("__debug__" : Str)) = false := by
  unfold MD.ok at hok
  simp only [Bool.and_eq_true] at hok
  have h := List.all_eq_true.mp hok.1.1.1.1 _ (lookup_mem hd)
  unfold FnD.ok at h
  rw [Bool.and_eq_true, Bool.not_eq_true'] at h
  obtain ⟨h0, h⟩ := h
  split at h
  · rename_i fa hfa
    split at h
    · rename_i ps body sc hf
      simp only [Bool.and_eq_true, decide_eq_true_eq] at h
      obtain ⟨⟨⟨h1, h2⟩, h3⟩, h4⟩ := h
      obtain ⟨r, hr⟩ := Option.isSome_iff_exists.mp h4
      obtain ⟨fd, kV, doc, pm, an, cdv, ct, e, F⟩ := fnAt_fun hf
      have hl : (d.N.take d.n).length = d.n := by rw [List.length_take]; omega
      have b : Binds K fd (d.N.take d.n) [] := F.binds fun _ _ _ _ _ _ us hu => binds_args h1 us hu
      have g := fn_snd (MD.withN (N' := d.N) m) F (scopeB_ok h2) rfl (by rw [hl]; exact h3) hr
      rw [hl] at g
      have ef : (M.tb (l + 1)).fn i = defF d.n d.N.length (d.a.run (M.tb l)) := by
        funext ds
        show (match M.defs.lookup i with | some d => defF d.n d.N.length (d.a.run (M.tb l)) ds | none => _) = _
        rw [hd]
      exact ⟨fa, fd, by rw [ef]; exact g, adr_mg X G hfa, F.kp, b, h0⟩
    · cases h
  · cases h
/-- the module, at each level of calls -/
theorem MD.mdl (X : K.In base) (G : base.Ns mainGlobals mg) (hs : ∃ o, base.get? sysModules = some o) (hok : M.ok K = true) : ∀ l : Nat, Mdl Pg wd K mg base (l + 2) (M.pm K) (M.tb l) (M.ck []) := by
  have hk := hok
  unfold MD.ok at hk
  simp only [Bool.and_eq_true] at hk
  obtain ⟨⟨⟨⟨k1, k2⟩, k3⟩, k4⟩, k5⟩ := hk
  have free : ∀ x ∈ freeNames, mg x = none := fun x hx => PySem.W.mg_none_of X G (beq_iff_eq.mp (List.all_eq_true.mp k3 x hx))
  have core : ∀ (l : Nat) (B : Tb), B.gl = (M.tb 0).gl → B.enm = (M.tb 0).enm → B.isx = (M.tb 0).isx →
      (∀ f x, (M.ck []).fn f = some x → (∃ (fa : Addr) (fd : FuncData) (ps : List Str), FnG Pg wd K mg base (l + 2) fa fd ps (spM (M.pm K) (B.fn f)) ∧ mg x = some (.ref fa) ∧ PySem.W.keepIn K (.ref fa) = true ∧ Binds K fd ps []) ∧ (x == ("__debug__" : Str)) = false) →
      Mdl Pg wd K mg base (l + 2) (M.pm K) B (M.ck []) := fun l B e1 e2 e3 hf => {
    hP := rfl
    sm := hs
    fns := hf
    gls := fun j x hx => by
      obtain ⟨p, hp, rfl⟩ := Option.map_eq_some_iff.mp (show (M.gls.lookup j).map (·.1) = some x from hx)
      have h := List.all_eq_true.mp k2 _ (lookup_mem hp)
      unfold glOk at h
      rw [Bool.and_eq_true, Bool.not_eq_true'] at h
      refine ⟨?_, h.1⟩
      have h2 := h.2
      split at h2
      · rename_i u hu
        obtain ⟨v, r, hr⟩ := valOk_rp (P := M.pm K) rfl h2
        refine ⟨u, v, PySem.W.mg_of X G hu, r, fun G am => ?_⟩
        rw [e1]
        show Rp _ _ _ _ (((M.gls.lookup j).map (·.2.d)).getD .non)
        rw [hp]
        exact hr G am
      · cases h2
    blt := fun b => free _ (by cases b <;> decide +kernel)
    tys := fun t => free _ (by cases t <;> decide +kernel)
    isi := free _ (by decide +kernel)
    rng := free _ (by decide +kernel)
    lst := free _ (by decide +kernel)
    enu := free _ (by decide +kernel)
    exo := fun j C n e => by
      obtain ⟨d, h1, h2, rfl⟩ := MD.exc_of e
      have h := List.all_eq_true.mp k4 _ (lookup_mem h1)
      unfold ExD.ok at h
      rw [h2, Bool.and_eq_true] at h
      have h' := h.2
      rw [Bool.and_eq_true] at h'
      refine ⟨exf_of h'.1, fun m hm => ?_⟩
      have h3 := h'.2
      rw [hm] at h3
      simp only [Bool.and_eq_true, beq_iff_eq] at h3
      exact h3.1.1.1.1
    exn := fun j C m e => by
      obtain ⟨d, h1, h2, rfl⟩ := MD.exc_of e
      rw [e2]
      show d.n = (M.exs.lookup j).bind (·.n)
      rw [h1]; rfl
    mks := fun j x e => by
      obtain ⟨d, h1, h2⟩ := Option.bind_eq_some_iff.mp (show ((M.exs.lookup j).bind fun e => if e.n.isSome then some e.x else none) = some x from e)
      split at h2
      · rename_i hn
        cases h2
        obtain ⟨m, hm⟩ := Option.isSome_iff_exists.mp hn
        have h := List.all_eq_true.mp k4 _ (lookup_mem h1)
        unfold ExD.ok at h
        rw [Bool.and_eq_true, Bool.not_eq_true'] at h
        refine ⟨?_, h.1⟩
        have h' := h.2
        split at h'
        · rename_i C hC
          rw [Bool.and_eq_true, hm] at h'
          rw [Bool.and_eq_true, Bool.and_eq_true, Bool.and_eq_true, Bool.and_eq_true] at h'
          obtain ⟨_, ⟨⟨⟨g1, g2⟩, g3⟩, g5⟩, g6⟩ := h'
          rw [beq_iff_eq] at g1
          rw [Bool.not_eq_true'] at g5 g6
          obtain ⟨i, w1, w2, w4, w3⟩ := init_of X G g3
          unfold initOk at g2
          split at g2
          · rename_i fI hfI
            rw [Bool.and_eq_true, beq_iff_eq] at g2
            obtain ⟨t1, g2⟩ := g2
            split at g2
            · rename_i ps body sc hf
              simp only [Bool.and_eq_true] at g2
              obtain ⟨⟨⟨i1, i2⟩, i3⟩, i4⟩ := g2
              obtain ⟨fd, kV, doc, pm, an, cdv, ct, ee, F⟩ := fnAt_fun hf
              have oex : OexG K C := w1.elim (fun t => .inl t.1) (fun t => .inr t.1)
              have fo := init_ok (Pg := Pg) (wd := wd) (mg := mg) (base := base) (k := 0) F (scopeB_ok i2) w3 w4 w2 w1 g1 i3 i4 ⟨by decide +kernel, by decide +kernel⟩ ⟨g5, g6⟩
              refine ⟨C, fI, m, fd, ["self", m], 1, by omega, ?_, oex, hfI, t1, fo, F.binds fun _ _ _ _ _ _ us hu => binds_args i1 us hu, adr_mg X G hC⟩
              show ((M.exs.lookup j).bind fun e => (adr K e.x).map fun C => (C, e.n)) = some (C, some m)
              rw [h1]
              show ((adr K d.x).map fun C => (C, d.n)) = _
              rw [hC, hm]; rfl
            · cases g2
          · cases g2
        · cases h'
      · cases h2
    mkt := fun j x e => by
      obtain ⟨d, h1, h2⟩ := Option.bind_eq_some_iff.mp (show ((M.exs.lookup j).bind fun e => if e.n.isSome then none else some e.x) = some x from e)
      split at h2
      · cases h2
      · rename_i hn
        cases h2
        have hm : d.n = none := by
          cases hz : d.n with
          | none => rfl
          | some m => rw [hz] at hn; exact absurd rfl hn
        have h := List.all_eq_true.mp k4 _ (lookup_mem h1)
        unfold ExD.ok at h
        rw [Bool.and_eq_true, Bool.not_eq_true'] at h
        refine ⟨?_, h.1⟩
        have h' := h.2
        split at h'
        · rename_i C hC
          rw [Bool.and_eq_true, hm] at h'
          have h3 : exTOk K C = true := h'.2
          unfold exTOk at h3
          simp only [Bool.and_eq_true, beq_iff_eq] at h3
          obtain ⟨⟨⟨g1, g2⟩, g3⟩, g4⟩ := h3
          refine ⟨C, ?_, g1, adr_mg X G hC, g2, g3, g4⟩
          show ((M.exs.lookup j).bind fun e => (adr K e.x).map fun C => (C, e.n)) = some (C, none)
          rw [h1]
          show ((adr K d.x).map fun C => (C, d.n)) = _
          rw [hC, hm]; rfl
        · cases h'
    tgt := fun t x e => by
      obtain ⟨p, hp, rfl⟩ := Option.map_eq_some_iff.mp (show (M.tgs.lookup t).map (·.1) = some x from e)
      obtain ⟨q1, q2, cv, q3, q4⟩ := tgOk_of (List.all_eq_true.mp k5 _ (lookup_mem hp))
      refine ⟨cv, tgVal_of X G q2 q3, q1, fun j C' n b e1 e2' => ?_⟩
      obtain ⟨d, h1, h2, _⟩ := MD.exc_of e1
      rw [e3] at e2'
      obtain ⟨r, h3, h4⟩ := Option.bind_eq_some_iff.mp (show (M.tgs.lookup t).bind (·.2.lookup j) = some b from e2')
      rw [hp] at h3
      cases h3
      exact q4 j b d C' h4 h1 h2 }
  intro l
  induction l with
  | zero =>
    refine core 0 _ rfl rfl rfl fun f x hx => ?_
    obtain ⟨d, hd, rfl⟩ := Option.map_eq_some_iff.mp (show (M.defs.lookup f).map (·.x) = some x from hx)
    have h := List.all_eq_true.mp k1 _ (lookup_mem hd)
    unfold FnD.ok at h
    rw [Bool.and_eq_true, Bool.not_eq_true'] at h
    obtain ⟨h0, h⟩ := h
    refine ⟨?_, h0⟩
    split at h
    · rename_i fa hfa
      split at h
      · rename_i ps body sc hf
        simp only [Bool.and_eq_true, decide_eq_true_eq] at h
        obtain ⟨fd, kV, doc, pm, an, cdv, ct, e, F⟩ := fnAt_fun hf
        refine ⟨fa, fd, d.N.take d.n, ⟨fun vs H Q E ⟨_, _, _, _, z⟩ => z.elim, fun A outer s H args us vs Q E _ _ _ _ _ ⟨_, _, _, _, z⟩ => z.elim⟩, adr_mg X G hfa, F.kp, F.binds fun _ _ _ _ _ _ us hu => binds_args h.1.1.1 us hu⟩
      · cases h
    · cases h
  | succ l ih =>
    refine core (l + 1) _ rfl rfl rfl fun f x hx => ?_
    obtain ⟨d, hd, rfl⟩ := Option.map_eq_some_iff.mp (show (M.defs.lookup f).map (·.x) = some x from hx)
    obtain ⟨fa, fd, h1, h2, h3, h4, h5⟩ := MD.fnG X G hs hok ih hd
    exact ⟨⟨fa, fd, _, h1, h2, h3, h4⟩, h5⟩
end
end
end MW
end
section
set_option Elab.async false
set_option autoImplicit false
set_option maxRecDepth 100000
set_option maxHeartbeats 1000000
/-! MW40: a law, from the run of its table. -/
namespace MW
open PySem PySem.Spec PyProof.Rows L2
theorem MD.walk {l : PySem.W.OpenLaw} {q : Program} {loose : List Str} {XP : (Str → Option Value) → Heap → Prop} {YP : World → Heap → Prop} {d : DefRec} {K : Params → PySem.W.Frag} (M : MD) (i lv : Nat) {dl : FnD} {x : Str}
    (hn : l.most = some 63) (hdf : d.params.defaults = []) (hY : ∀ (w : World) (h : Heap), YP w h → (K w.params).In h) (himp : importsNone q = true) (hok : ∀ w : World, M.ok (K w.params) = true)
    (hi : M.defs.lookup i = some dl) (hx : dl.x = d.name) (hN : dl.N.take dl.n = [x]) (hroom : Room (lv + 3) callerA) (run : ∀ ns : List Int, ns.length ≤ 63 → ∃ w', (M.tb (lv + 1)).fn i [.scr ns] ⟨none⟩ = .ok (.bl true) w') :
    PySem.W.WalkO q loose XP YP l.row.toRowW d [] (fun f vs => PySem.call f vs) := by
  refine Att.attach_call hn hdf fun w s0 s1 mg mb fa o pm cd doc a vs ns G Y ho hd hcd hmg hobj hints hlen hg => ?_
  have KX := hY w _ Y
  have sm := (G.T.seer himp).mods
  have Z : Begin (K w.params) mg mb a vs ns s1 := ⟨KX, G.T.g, G.T.b, G.T.builtins, G.T.nolimit, hg, sm.imp fun _ h => h.1, hobj, hints, hlen⟩
  obtain ⟨w', hw⟩ := run ns hlen
  refine law_callG (Pg := l.prog) (k := lv + 3) (x := x) (P := M.pm (K w.params)) Z rfl hroom (fun base h1 h2 h3 => ?_) hw
  have := MD.fnG (Pg := l.prog) (wd := w) h1 h2 h3 (hok w) (MD.mdl h1 h2 h3 (hok w) lv) hi
  rw [hN, hx] at this
  obtain ⟨fb, fd, g1, g2, g3, g4, g5⟩ := this
  rw [hmg] at g2
  cases g2
  exact ⟨fd, g1, g4⟩
end MW
end
section
set_option Elab.async false
set_option autoImplicit false
set_option maxRecDepth 100000
/-! PL1: runs, plainly. -/
namespace MW
open PySem L2
/-! ### the evaluator's equations -/
@[simp] theorem MX_ev_var_eq {B : Tb} {i : Nat} {ρ : En} : MX.ev B (.var i) ρ = fVar i ρ := by rw [MX.ev]
@[simp] theorem MX_ev_int_eq {B : Tb} {i : Int} {ρ : En} : MX.ev B (.int i) ρ = M.pure (.int i) := by rw [MX.ev]
@[simp] theorem MX_ev_str_eq {B : Tb} {x : Str} {ρ : En} : MX.ev B (.str x) ρ = M.pure (.str x) := by rw [MX.ev]
@[simp] theorem MX_ev_bl_eq {B : Tb} {b : Bool} {ρ : En} : MX.ev B (.bl b) ρ = M.pure (.bl b) := by rw [MX.ev]
@[simp] theorem MX_ev_non_eq {B : Tb} {ρ : En} : MX.ev B (.non) ρ = M.pure .non := by rw [MX.ev]
@[simp] theorem MX_ev_glb_eq {B : Tb} {k : Nat} {ρ : En} : MX.ev B (.glb k) ρ = M.pure (B.gl k) := by rw [MX.ev]
@[simp] theorem MX_ev_bin_eq {B : Tb} {o : BOp} {a : MX} {b : MX} {ρ : En} : MX.ev B (.bin o a b) ρ = M.bind (a.ev B ρ) fun x => M.bind (b.ev B ρ) fun y => M.opt (D.bop o x y) := by rw [MX.ev]
@[simp] theorem MX_ev_cmp_eq {B : Tb} {o : COp} {a : MX} {b : MX} {ρ : En} : MX.ev B (.cmp o a b) ρ = M.bind (a.ev B ρ) fun x => M.bind (b.ev B ρ) fun y => M.bind (M.opt (D.cop o x y)) fun z => M.pure (.bl z) := by rw [MX.ev]
@[simp] theorem MX_ev_chain_eq {B : Tb} {o : COp} {o' : COp} {a : MX} {b : MX} {t : MX} {ρ : En} : MX.ev B (.chain o o' a b t) ρ = M.bind (a.ev B ρ) fun x => M.bind (b.ev B ρ) fun y => M.bind (M.opt (D.cop o x y)) fun k => if k then M.bind (t.ev B ρ) fun z => M.bind (M.opt (D.cop o' y z)) fun k' => M.pure (.bl k') else M.pure (.bl false) := by rw [MX.ev]
@[simp] theorem MX_ev_and_eq {B : Tb} {a : MX} {b : MX} {ρ : En} : MX.ev B (.and a b) ρ = M.bind (a.ev B ρ) fun x => M.bind (asBl x) fun k => if k then M.bind (b.ev B ρ) fun y => M.bind (asBl y) fun k' => M.pure (.bl k') else M.pure (.bl false) := by rw [MX.ev]
@[simp] theorem MX_ev_or_eq {B : Tb} {a : MX} {b : MX} {ρ : En} : MX.ev B (.or a b) ρ = M.bind (a.ev B ρ) fun x => M.bind (asBl x) fun k => if k then M.pure (.bl true) else M.bind (b.ev B ρ) fun y => M.bind (asBl y) fun k' => M.pure (.bl k') := by rw [MX.ev]
@[simp] theorem MX_ev_not_eq {B : Tb} {a : MX} {ρ : En} : MX.ev B (.not a) ρ = M.bind (a.ev B ρ) fun x => M.bind (asBl x) fun k => M.pure (.bl !k) := by rw [MX.ev]
@[simp] theorem MX_ev_neg_eq {B : Tb} {a : MX} {ρ : En} : MX.ev B (.neg a) ρ = M.bind (a.ev B ρ) fun x => M.opt (D.neg x) := by rw [MX.ev]
@[simp] theorem MX_ev_isN_eq {B : Tb} {a : MX} {ρ : En} : MX.ev B (.isN a) ρ = M.bind (a.ev B ρ) fun x => M.pure (.bl (isNon x)) := by rw [MX.ev]
@[simp] theorem MX_ev_notN_eq {B : Tb} {a : MX} {ρ : En} : MX.ev B (.notN a) ρ = M.bind (a.ev B ρ) fun x => M.pure (.bl !(isNon x)) := by rw [MX.ev]
@[simp] theorem MX_ev_ite_eq {B : Tb} {t : MX} {a : MX} {b : MX} {ρ : En} : MX.ev B (.ite t a b) ρ = M.bind (t.tst B ρ) fun k => if k then a.ev B ρ else b.ev B ρ := by rw [MX.ev]
@[simp] theorem MX_ev_tup_eq {B : Tb} {es : MXs} {ρ : En} : MX.ev B (.tup es) ρ = M.bind (es.ev B ρ) fun xs => if fits xs.length then M.pure (.tup xs) else M.bad := by rw [MX.ev]
@[simp] theorem MX_ev_lst_eq {B : Tb} {es : MXs} {ρ : En} : MX.ev B (.lst es) ρ = M.bind (es.ev B ρ) fun xs => if fits xs.length then M.pure (.lst xs) else M.bad := by rw [MX.ev]
@[simp] theorem MX_ev_dict0_eq {B : Tb} {ρ : En} : MX.ev B (.dict0) ρ = M.pure (.dic []) := by rw [MX.ev]
@[simp] theorem MX_ev_ix_eq {B : Tb} {a : MX} {b : MX} {ρ : En} : MX.ev B (.ix a b) ρ = M.bind (a.ev B ρ) fun x => M.bind (b.ev B ρ) fun y => M.opt (D.ix x y) := by rw [MX.ev]
@[simp] theorem MX_ev_sl_eq {B : Tb} {a : MX} {lo : MO} {hi : MO} {ρ : En} : MX.ev B (.sl a lo hi) ρ = M.bind (a.ev B ρ) fun x => M.bind (lo.ev B ρ) fun l => M.bind (hi.ev B ρ) fun h => M.opt (D.slice x l h) := by rw [MX.ev]
@[simp] theorem MX_ev_call_eq {B : Tb} {f : Nat} {es : MXs} {ρ : En} : MX.ev B (.call f es) ρ = M.bind (es.ev B ρ) (B.fn f) := by rw [MX.ev]
@[simp] theorem MX_ev_blt_eq {B : Tb} {b : Bt} {es : MXs} {ρ : En} : MX.ev B (.blt b es) ρ = M.bind (es.ev B ρ) fun ds => M.opt (b.run ds) := by rw [MX.ev]
@[simp] theorem MX_ev_isTy_eq {B : Tb} {a : MX} {t : Ty} {ρ : En} : MX.ev B (.isTy a t) ρ = M.bind (a.ev B ρ) fun x => M.bind (M.opt (D.isTy x t)) fun b => M.pure (.bl b) := by rw [MX.ev]
@[simp] theorem MX_ev_comp_eq {B : Tb} {own : List Nat} {T : Tg} {it : MI} {t : MX} {e : MX} {ρ : En} : MX.ev B (.comp own T it t e) ρ = fComp own T (it.ev B) (t.tst B) (e.ev B) ρ := by rw [MX.ev]
@[simp] theorem MX_ev_rev_eq {B : Tb} {a : MX} {ρ : En} : MX.ev B (.rev a) ρ = M.bind (a.ev B ρ) fun x => M.opt (D.rev x) := by rw [MX.ev]
@[simp] theorem MX_ev_call0_eq {B : Tb} {f : Nat} {ρ : En} : MX.ev B (.call0 f) ρ = B.fn f [] := by rw [MX.ev]
@[simp] theorem MX_ev_lrg_eq {B : Tb} {a : MX} {ρ : En} : MX.ev B (.lrg a) ρ = M.bind (a.ev B ρ) fun x => M.opt (MW.lrg [x]) := by rw [MX.ev]
@[simp] theorem MX_ev_dget_eq {B : Tb} {a : MX} {k : Str} {ρ : En} : MX.ev B (.dget a k) ρ = M.bind (a.ev B ρ) (drawGet k) := by rw [MX.ev]
@[simp] theorem MX_ev_glen_eq {B : Tb} {a : MX} {ρ : En} : MX.ev B (.glen a) ρ = M.bind (a.ev B ρ) greatLen := by rw [MX.ev]
@[simp] theorem MX_ev_gix_eq {B : Tb} {a : MX} {b : MX} {ρ : En} : MX.ev B (.gix a b) ρ = M.bind (a.ev B ρ) fun x => M.bind (b.ev B ρ) fun y => greatIx x y := by rw [MX.ev]
@[simp] theorem MX_ev_gne_eq {B : Tb} {z0 : MX} {ρ : En} : MX.ev B (.gne z0) ρ = M.bad := by rw [MX.ev]
@[simp] theorem MX_ev_mkDraw_eq {B : Tb} {a : MX} {b : MX} {t : MX} {ρ : En} : MX.ev B (.mkDraw a b t) ρ = M.bind (a.ev B ρ) fun x => M.bind (b.ev B ρ) fun y => M.bind (t.ev B ρ) fun z => drawMk x y z := by rw [MX.ev]
@[simp] theorem MX_ev_exA_eq {B : Tb} {a : MX} {n : Str} {ρ : En} : MX.ev B (.exA a n) ρ = M.bind (a.ev B ρ) (exDat B.enm n) := by rw [MX.ev]
@[simp] theorem MX_ev_isE_eq {B : Tb} {a : MX} {t : Nat} {ρ : En} : MX.ev B (.isE a t) ρ = M.bind (a.ev B ρ) fun x => M.bind (asExn x) fun k => M.bind (M.opt (B.isx t k)) fun b => M.pure (.bl b) := by rw [MX.ev]
@[simp] theorem MX_ev_isE2_eq {B : Tb} {a : MX} {t : Nat} {u : Nat} {ρ : En} : MX.ev B (.isE2 a t u) ρ = M.bind (a.ev B ρ) fun x => M.bind (asExn x) fun k => M.bind (M.opt (B.isx2 t u k)) fun b => M.pure (.bl b) := by rw [MX.ev]
@[simp] theorem MX_ev_mkE_eq {B : Tb} {k : Nat} {a : MX} {ρ : En} : MX.ev B (.mkE k a) ρ = M.bind (a.ev B ρ) fun d => M.pure (.exn k d) := by rw [MX.ev]
@[simp] theorem MX_ev_mkT_eq {B : Tb} {k : Nat} {ρ : En} : MX.ev B (.mkT k) ρ = M.pure (.exn k .non) := by rw [MX.ev]
@[simp] theorem MX_tst_cmp_eq {B : Tb} {o : COp} {a : MX} {b : MX} {ρ : En} : MX.tst B (.cmp o a b) ρ = M.bind (a.ev B ρ) fun x => M.bind (b.ev B ρ) fun y => M.opt (D.cop o x y) := by rw [MX.tst]
@[simp] theorem MX_tst_chain_eq {B : Tb} {o : COp} {o' : COp} {a : MX} {b : MX} {t : MX} {ρ : En} : MX.tst B (.chain o o' a b t) ρ = M.bind (a.ev B ρ) fun x => M.bind (b.ev B ρ) fun y => M.bind (M.opt (D.cop o x y)) fun k => if k then M.bind (t.ev B ρ) fun z => M.opt (D.cop o' y z) else M.pure false := by rw [MX.tst]
@[simp] theorem MX_tst_and_eq {B : Tb} {a : MX} {b : MX} {ρ : En} : MX.tst B (.and a b) ρ = M.bind (a.tst B ρ) fun k => if k then b.tst B ρ else M.pure false := by rw [MX.tst]
@[simp] theorem MX_tst_or_eq {B : Tb} {a : MX} {b : MX} {ρ : En} : MX.tst B (.or a b) ρ = M.bind (a.tst B ρ) fun k => if k then M.pure true else b.tst B ρ := by rw [MX.tst]
@[simp] theorem MX_tst_not_eq {B : Tb} {a : MX} {ρ : En} : MX.tst B (.not a) ρ = M.bind (a.tst B ρ) fun k => M.pure !k := by rw [MX.tst]
@[simp] theorem MX_tst_isN_eq {B : Tb} {a : MX} {ρ : En} : MX.tst B (.isN a) ρ = M.bind (a.ev B ρ) fun x => M.pure (isNon x) := by rw [MX.tst]
@[simp] theorem MX_tst_notN_eq {B : Tb} {a : MX} {ρ : En} : MX.tst B (.notN a) ρ = M.bind (a.ev B ρ) fun x => M.pure !(isNon x) := by rw [MX.tst]
@[simp] theorem MX_tst_bl_eq {B : Tb} {ρ : En} : MX.tst B (.bl true) ρ = M.pure true := by rw [MX.tst]
@[simp] theorem MX_tst_var_eq {B : Tb} {i : Nat} {ρ : En} : MX.tst B (.var i) ρ = M.bind (fVar i ρ) fun x => M.opt (D.truth x) := by rw [MX.tst]
@[simp] theorem MX_tst_ix_eq {B : Tb} {a : MX} {b : MX} {ρ : En} : MX.tst B (.ix a b) ρ = M.bind (M.bind (a.ev B ρ) fun x => M.bind (b.ev B ρ) fun y => M.opt (D.ix x y)) fun x => M.opt (D.truth x) := by rw [MX.tst]
@[simp] theorem MX_tst_call_eq {B : Tb} {f : Nat} {es : MXs} {ρ : En} : MX.tst B (.call f es) ρ = M.bind (M.bind (es.ev B ρ) (B.fn f)) fun x => M.opt (D.truth x) := by rw [MX.tst]
@[simp] theorem MX_tst_blt_eq {B : Tb} {b : Bt} {es : MXs} {ρ : En} : MX.tst B (.blt b es) ρ = M.bind (M.bind (es.ev B ρ) fun ds => M.opt (b.run ds)) fun x => M.opt (D.truth x) := by rw [MX.tst]
@[simp] theorem MX_tst_call0_eq {B : Tb} {f : Nat} {ρ : En} : MX.tst B (.call0 f) ρ = M.bind (B.fn f []) fun x => M.opt (D.truth x) := by rw [MX.tst]
@[simp] theorem MX_tst_isTy_eq {B : Tb} {a : MX} {t : Ty} {ρ : En} : MX.tst B (.isTy a t) ρ = M.bind (M.bind (a.ev B ρ) fun x => M.bind (M.opt (D.isTy x t)) fun b => M.pure (.bl b)) fun x => M.opt (D.truth x) := by rw [MX.tst]
@[simp] theorem MX_tst_isE_eq {B : Tb} {a : MX} {t : Nat} {ρ : En} : MX.tst B (.isE a t) ρ = M.bind (M.bind (a.ev B ρ) fun x => M.bind (asExn x) fun k => M.bind (M.opt (B.isx t k)) fun b => M.pure (.bl b)) fun x => M.opt (D.truth x) := by rw [MX.tst]
@[simp] theorem MX_tst_isE2_eq {B : Tb} {a : MX} {t : Nat} {u : Nat} {ρ : En} : MX.tst B (.isE2 a t u) ρ = M.bind (M.bind (a.ev B ρ) fun x => M.bind (asExn x) fun k => M.bind (M.opt (B.isx2 t u k)) fun b => M.pure (.bl b)) fun x => M.opt (D.truth x) := by rw [MX.tst]
@[simp] theorem MX_tst_gne_eq {B : Tb} {a : MX} {ρ : En} : MX.tst B (.gne a) ρ = M.bind (a.ev B ρ) greatNe := by rw [MX.tst]
@[simp] theorem MXs_ev_nil_eq {B : Tb} {ρ : En} : MXs.ev B (.nil) ρ = M.pure [] := by rw [MXs.ev]
@[simp] theorem MXs_ev_cons_eq {B : Tb} {a : MX} {es : MXs} {ρ : En} : MXs.ev B (.cons a es) ρ = M.bind (a.ev B ρ) fun x => M.bind (es.ev B ρ) fun xs => M.pure (x :: xs) := by rw [MXs.ev]
@[simp] theorem MO_ev_no_eq {B : Tb} {ρ : En} : MO.ev B (.no) ρ = M.pure none := by rw [MO.ev]
@[simp] theorem MO_ev_yes_eq {B : Tb} {a : MX} {ρ : En} : MO.ev B (.yes a) ρ = M.bind (a.ev B ρ) fun x => M.opt (D.asInt x) := by rw [MO.ev]
@[simp] theorem MI_ev_seq_eq {B : Tb} {a : MX} {ρ : En} : MI.ev B (.seq a) ρ = M.bind (a.ev B ρ) fun x => M.opt (asSeq x) := by rw [MI.ev]
@[simp] theorem MI_ev_r1_eq {B : Tb} {es : MXs} {ρ : En} : MI.ev B (.r1 es) ρ = M.bind (es.ev B ρ) fun ds => M.opt (rng1 ds) := by rw [MI.ev]
@[simp] theorem MI_ev_r2_eq {B : Tb} {es : MXs} {ρ : En} : MI.ev B (.r2 es) ρ = M.bind (es.ev B ρ) fun ds => M.opt (rng2 ds) := by rw [MI.ev]
@[simp] theorem MI_ev_pairs_eq {B : Tb} {a : MX} {ρ : En} : MI.ev B (.pairs a) ρ = M.bind (a.ev B ρ) fun x => M.bind (M.opt (asSeq x)) fun l => M.pure (pairsD 0 l) := by rw [MI.ev]
@[simp] theorem MS_run_pass_eq {B : Tb} {ρ : En} : MS.run B (.pass) ρ = M.pure (.nx ρ) := by rw [MS.run]
@[simp] theorem MS_run_brk_eq {B : Tb} {ρ : En} : MS.run B (.brk) ρ = M.pure (.bk ρ) := by rw [MS.run]
@[simp] theorem MS_run_cont_eq {B : Tb} {ρ : En} : MS.run B (.cont) ρ = M.pure (.ct ρ) := by rw [MS.run]
@[simp] theorem MS_run_retN_eq {B : Tb} {ρ : En} : MS.run B (.retN) ρ = M.pure (.rt .non) := by rw [MS.run]
@[simp] theorem MS_run_ret_eq {B : Tb} {a : MX} {ρ : En} : MS.run B (.ret a) ρ = M.bind (a.ev B ρ) fun d => M.pure (.rt d) := by rw [MS.run]
@[simp] theorem MS_run_set_eq {B : Tb} {i : Nat} {a : MX} {ρ : En} : MS.run B (.set i a) ρ = fSet i (a.ev B) ρ := by rw [MS.run]
@[simp] theorem MS_run_par_eq {B : Tb} {is : List Nat} {z1 : List Bool} {es : MXs} {ρ : En} : MS.run B (.par is z1 es) ρ = fPar is (es.ev B) ρ := by rw [MS.run]
@[simp] theorem MS_run_asg_eq {B : Tb} {t : MT} {a : MX} {ρ : En} : MS.run B (.asg t a) ρ = fAsg (t.put B) (a.ev B) ρ := by rw [MS.run]
@[simp] theorem MS_run_asgs_eq {B : Tb} {ts : List MT} {a : MX} {ρ : En} : MS.run B (.asgs ts a) ρ = fAsg (fPutT ts.length (putAll B ts)) (a.ev B) ρ := by rw [MS.run]
@[simp] theorem MS_run_app_eq {B : Tb} {i : Nat} {a : MX} {ρ : En} : MS.run B (.app i a) ρ = fApp i (a.ev B) ρ := by rw [MS.run]
@[simp] theorem MS_run_expr_eq {B : Tb} {a : MX} {ρ : En} : MS.run B (.expr a) ρ = M.bind (a.ev B ρ) fun _ => M.pure (.nx ρ) := by rw [MS.run]
@[simp] theorem MS_run_nil_eq {B : Tb} {ρ : En} : MS.run B (.nil) ρ = M.pure (.nx ρ) := by rw [MS.run]
@[simp] theorem MS_run_cons_eq {B : Tb} {a : MS} {b : MS} {ρ : En} : MS.run B (.cons a b) ρ = fSeq (a.run B) (b.run B) ρ := by rw [MS.run]
@[simp] theorem MS_run_ifs_eq {B : Tb} {t : MX} {a : MS} {b : MS} {ρ : En} : MS.run B (.ifs t a b) ρ = M.bind (t.tst B ρ) fun k => if k then a.run B ρ else b.run B ρ := by rw [MS.run]
@[simp] theorem MS_run_for__eq {B : Tb} {T : Tg} {it : MI} {b : MS} {ρ : En} : MS.run B (.for_ T it b) ρ = fFor T (it.ev B) (b.run B) ρ := by rw [MS.run]
@[simp] theorem MS_run_whl_eq {B : Tb} {n : Nat} {t : MX} {b : MS} {ρ : En} : MS.run B (.whl n t b) ρ = whL (t.tst B) (b.run B) n ρ := by rw [MS.run]
@[simp] theorem MS_run_raise__eq {B : Tb} {k : Nat} {a : MX} {ρ : En} : MS.run B (.raise_ k a) ρ = M.bind (a.ev B ρ) fun d => M.raise k d := by rw [MS.run]
@[simp] theorem MS_run_raiseT_eq {B : Tb} {k : Nat} {ρ : En} : MS.run B (.raiseT k) ρ = M.raise k .non := by rw [MS.run]
@[simp] theorem MS_run_try__eq {B : Tb} {cl : List Nat} {nm : Option Nat} {o : One} {a : MX} {s : MS} {ρ : En} : MS.run B (.try_ cl nm o a s) ρ = fTry (B.mch cl) nm o (a.ev B) (s.run B) ρ := by rw [MS.run]
@[simp] theorem MS_run_drop_eq {B : Tb} {z0 : List Nat} {a : MS} {ρ : En} : MS.run B (.drop z0 a) ρ = a.run B ρ := by rw [MS.run]
@[simp] theorem put_nm {B : Tb} {i : Nat} : MT.put B (.nm i) = fPutN i := (rfl)
@[simp] theorem put_sub {B : Tb} {i : Nat} {k : MX} : MT.put B (.sub i k) = fPutS i (k.ev B) := (rfl)
@[simp] theorem put_dsub {B : Tb} {i : Nat} {k : Str} : MT.put B (.dsub i k) = fPutD i k := (rfl)
@[simp] theorem put_gsub {B : Tb} {i : Nat} {k : MX} : MT.put B (.gsub i k) = fPutG i (k.ev B) := (rfl)
@[simp] theorem putAll_nil {B : Tb} : putAll B [] = fPutNil := (rfl)
@[simp] theorem putAll_cons {B : Tb} {t : MT} {ts : List MT} : putAll B (t :: ts) = fPutCons (t.put B) (putAll B ts) := (rfl)
@[simp] theorem run_len : Bt.run .len = D.bLen := (rfl)
@[simp] theorem run_int : Bt.run .int = D.bInt := (rfl)
@[simp] theorem run_max : Bt.run .max = D.bMax := (rfl)
@[simp] theorem run_min : Bt.run .min = D.bMin := (rfl)
@[simp] theorem run_sum : Bt.run .sum = D.bSum := (rfl)
@[simp] theorem run_all : Bt.run .all = D.bAll := (rfl)
@[simp] theorem run_any : Bt.run .any = D.bAny := (rfl)
@[simp] theorem run_tuple : Bt.run .tuple = D.bTuple := (rfl)
@[simp] theorem run_repr : Bt.run .repr = D.bRepr := (rfl)
@[simp] theorem run_sorted : Bt.run .sorted = D.bSorted := (rfl)
section
variable {α β γ : Type}
@[simp] theorem bind_pure (a : α) (f : α → M β) : M.bind (M.pure a) f = f a := (rfl)
@[simp] theorem bind_bad (f : α → M β) : M.bind M.bad f = M.bad := (rfl)
@[simp] theorem bind_raise (c : Nat) (d : D) (f : α → M β) : M.bind (M.raise c d) f = M.raise c d := (rfl)
@[simp] theorem opt_some (a : α) : M.opt (some a) = M.pure a := (rfl)
@[simp] theorem opt_none : (M.opt (none : Option α)) = M.bad := (rfl)
@[simp] theorem bind_assoc (m : M α) (f : α → M β) (g : β → M γ) : M.bind (M.bind m f) g = M.bind m fun a => M.bind (f a) g := by
  funext w
  unfold M.bind
  cases m w <;> rfl
@[simp] theorem bind_ite (c : Prop) [Decidable c] (a b : M α) (f : α → M β) : M.bind (if c then a else b) f = if c then M.bind a f else M.bind b f := by
  split <;> rfl
@[simp] theorem bind_pure_id (m : M α) : M.bind m M.pure = m := by
  funext w
  unfold M.bind
  cases m w <;> rfl
theorem ite_pure (c : Prop) [Decidable c] (a b : α) : (if c then M.pure a else M.pure b) = M.pure (if c then a else b) := by
  split <;> rfl
@[simp] theorem ite_pureD (c : Prop) [Decidable c] (a b : D) : (if c then M.pure a else M.pure b) = M.pure (if c then a else b) := ite_pure c a b
@[simp] theorem ite_pureB (c : Prop) [Decidable c] (a b : Bool) : (if c then M.pure a else M.pure b) = M.pure (if c then a else b) := ite_pure c a b
@[simp] theorem ite_pureO (c : Prop) [Decidable c] (a b : Option D) : (if c then M.pure a else M.pure b) = M.pure (if c then a else b) := ite_pure c a b
@[simp] theorem ite_bl (c : Prop) [Decidable c] (a b : Bool) : (if c then D.bl a else D.bl b) = D.bl (if c then a else b) := by
  split <;> rfl
@[simp] theorem ite_int (c : Prop) [Decidable c] (a b : Int) : (if c then D.int a else D.int b) = D.int (if c then a else b) := by
  split <;> rfl
@[simp] theorem ite_tup (c : Prop) [Decidable c] (a b : List D) : (if c then D.tup a else D.tup b) = D.tup (if c then a else b) := by
  split <;> rfl
@[simp] theorem ite_lst (c : Prop) [Decidable c] (a b : List D) : (if c then D.lst a else D.lst b) = D.lst (if c then a else b) := by
  split <;> rfl
@[simp] theorem quiet_pure (a : α) : M.quiet (M.pure a) = M.pure a := (rfl)
@[simp] theorem quiet_bind (m : M α) (f : α → M β) : M.quiet (M.bind m f) = M.bind (M.quiet m) fun a => M.quiet (f a) := by
  funext w
  unfold M.quiet M.bind
  cases h : m w <;> simp [h]
@[simp] theorem quiet_opt (o : Option α) : M.quiet (M.opt o) = M.opt o := by cases o <;> rfl
@[simp] theorem quiet_ite (c : Prop) [Decidable c] (a b : M α) : M.quiet (if c then a else b) = if c then M.quiet a else M.quiet b := by
  split <;> rfl
@[simp] theorem quiet_bad : M.quiet (M.bad : M α) = M.bad := (rfl)
@[simp] theorem opt_ite (c : Prop) [Decidable c] (a b : Option α) : M.opt (if c then a else b) = if c then M.opt a else M.opt b := by
  split <;> rfl
end
section
variable {ρ : En} {f u : En → M Fl} {fe : En → M D} {fs : En → M (List D)} {i : Nat}
@[simp] theorem fSeq_eq : fSeq f u ρ = M.bind (f ρ) fun r => match r with
  | .nx ρ' => u ρ'
  | r => M.pure r := (rfl)
@[simp] theorem fVar_eq : fVar i ρ = M.opt (ρ[i]?.join) := (rfl)
@[simp] theorem fSet_eq : fSet i fe ρ = M.bind (fe ρ) fun d => M.pure (.nx (ρ.set i (some d))) := (rfl)
@[simp] theorem fPar_eq {is : List Nat} : fPar is fs ρ = M.bind (fs ρ) fun ds => if ds.length = is.length then M.pure (.nx (setE is ds ρ)) else M.bad := (rfl)
@[simp] theorem setE_nil {ρ : En} : setE [] [] ρ = ρ := (rfl)
@[simp] theorem setE_cons {is : List Nat} {d : D} {ds : List D} {ρ : En} : setE (i :: is) (d :: ds) ρ = setE is ds (ρ.set i (some d)) := (rfl)
@[simp] theorem fAsg_eq {g : D → En → M En} : fAsg g fe ρ = M.bind (fe ρ) fun d => M.bind (M.quiet (g d ρ)) fun ρ' => M.pure (.nx ρ') := (rfl)
@[simp] theorem fPutT_eq {n : Nat} {g : List D → En → M En} {d : D} : fPutT n g d ρ = match d with
  | .tup ds => if ds.length = n then g ds ρ else M.bad
  | _ => M.bad := (rfl)
@[simp] theorem fPutN_eq {d : D} : fPutN i d ρ = M.pure (ρ.set i (some d)) := (rfl)
@[simp] theorem fPutNil_eq : fPutNil [] ρ = M.pure ρ := (rfl)
@[simp] theorem fPutCons_eq {g : D → En → M En} {gs : List D → En → M En} {d : D} {ds : List D} : fPutCons g gs (d :: ds) ρ = M.bind (g d ρ) fun ρ1 => gs ds ρ1 := (rfl)
@[simp] theorem fApp_eq : fApp i fe ρ = M.bind (M.opt (lstAt ρ i)) fun l => M.bind (fe ρ) fun y => if fits (l.length + 1) then M.pure (.nx (ρ.set i (some (.lst (l ++ [y]))))) else M.bad := (rfl)
@[simp] theorem fPutS_eq {fk : En → M D} {d : D} : fPutS i fk d ρ = M.bind (fk ρ) fun k => M.bind (M.opt (lstAt ρ i)) fun l => M.bind (M.opt (setAt l d k)) fun l' => M.pure (ρ.set i (some (.lst l'))) := (rfl)
@[simp] theorem fFor_eq {T : Tg} {fi : En → M (List D)} : fFor T fi f ρ = M.bind (fi ρ) fun ds => forL T f ds ρ := (rfl)
@[simp] theorem forL_nil {T : Tg} : forL T f [] ρ = M.pure (.nx ρ) := (rfl)
theorem forL_cons {T : Tg} {d : D} {ds : List D} : forL T f (d :: ds) ρ = M.bind (M.opt (T.put d ρ)) fun ρ1 => M.bind (f ρ1) fun r => match r with
    | .nx ρ2 => forL T f ds ρ2
    | .ct ρ2 => forL T f ds ρ2
    | .bk ρ2 => M.pure (.nx ρ2)
    | .rt d => M.pure (.rt d) := (rfl)
@[simp] theorem put_one {d : D} : (Tg.one i).put d ρ = some (ρ.set i (some d)) := (rfl)
@[simp] theorem put_tup {l : List Nat} {ds : List D} : (Tg.tup l).put (.tup ds) ρ = setsD l ds ρ := (rfl)
@[simp] theorem setsD_nil : setsD [] [] ρ = some ρ := (rfl)
@[simp] theorem setsD_cons {l : List Nat} {d : D} {ds : List D} : setsD (i :: l) (d :: ds) ρ = setsD l ds (ρ.set i (some d)) := (rfl)
@[simp] theorem lstAt_eq : lstAt ρ i = match ρ[i]? with
  | some (some (.lst l)) => some l
  | _ => none := (rfl)
@[simp] theorem asBl_bl (b : Bool) : asBl (.bl b) = M.pure b := (rfl)
@[simp] theorem isNon_non : isNon .non = true := (rfl)
@[simp] theorem isNon_int (i : Int) : isNon (.int i) = false := (rfl)
@[simp] theorem isNon_str (i : Str) : isNon (.str i) = false := (rfl)
@[simp] theorem isNon_tup (l : List D) : isNon (.tup l) = false := (rfl)
@[simp] theorem isNon_lst (l : List D) : isNon (.lst l) = false := (rfl)
@[simp] theorem isNon_exn (k : Nat) (d : D) : isNon (.exn k d) = false := (rfl)
@[simp] theorem isNon_bl (b : Bool) : isNon (.bl b) = false := (rfl)
@[simp] theorem compL_nil {body : D → M (Option D)} {acc : List D} : compL body [] acc = M.pure acc := (rfl)
end
/-! ### operations on data -/
section
variable {i j : Int} {x y : Str} {l m : List D} {a b : Bool}
@[simp] theorem add_int : D.bop .add (.int i) (.int j) = some (.int (i + j)) := (rfl)
@[simp] theorem sub_int : D.bop .sub (.int i) (.int j) = some (.int (i - j)) := (rfl)
@[simp] theorem lt_int : D.cop .lt (.int i) (.int j) = some (decide (i < j)) := (rfl)
@[simp] theorem le_int : D.cop .le (.int i) (.int j) = some (decide (i ≤ j)) := (rfl)
@[simp] theorem gt_int : D.cop .gt (.int i) (.int j) = some (decide (j < i)) := (rfl)
@[simp] theorem ge_int : D.cop .ge (.int i) (.int j) = some (decide (j ≤ i)) := (rfl)
@[simp] theorem truth_bl : D.truth (.bl a) = some a := (rfl)
@[simp] theorem truth_int : D.truth (.int i) = some (i != 0) := (rfl)
@[simp] theorem truth_non : D.truth .non = some false := (rfl)
@[simp] theorem bLen_lst : D.bLen [.lst l] = some (.int l.length) := (rfl)
@[simp] theorem bLen_tup : D.bLen [.tup l] = some (.int l.length) := (rfl)
@[simp] theorem bLen_scr {s : List Int} : D.bLen [.scr s] = some (.int s.length) := (rfl)
@[simp] theorem bInt_int : D.bInt [.int i] = some (.int i) := (rfl)
@[simp] theorem bInt_bl : D.bInt [.bl a] = some (.int (if a then 1 else 0)) := (rfl)
@[simp] theorem bTuple_lst : D.bTuple [.lst l] = some (.tup l) := (rfl)
@[simp] theorem bTuple_tup : D.bTuple [.tup l] = some (.tup l) := (rfl)
@[simp] theorem bMax_int : D.bMax [.int i, .int j] = some (.int (max i j)) := by
  show some (D.int (if j > i then j else i)) = _
  congr 2
  omega
@[simp] theorem bMin_int : D.bMin [.int i, .int j] = some (.int (min i j)) := by
  show some (D.int (if j < i then j else i)) = _
  congr 2
  omega
@[simp] theorem asSeq_lst : asSeq (.lst l) = some l := (rfl)
@[simp] theorem asSeq_tup : asSeq (.tup l) = some l := (rfl)
@[simp] theorem asSeq_scr {s : List Int} : asSeq (.scr s) = some (s.map .int) := (rfl)
@[simp] theorem asInt_int : D.asInt (.int i) = some (some i) := (rfl)
@[simp] theorem rev_lst : D.rev (.lst l) = some (.lst l.reverse) := (rfl)
@[simp] theorem rev_tup : D.rev (.tup l) = some (.tup l.reverse) := (rfl)
@[simp] theorem neg_int : D.neg (.int i) = some (.int (-i)) := (rfl)
@[simp] theorem slice_tup {lo hi : Option Int} : D.slice (.tup l) lo hi = some (.tup (D.cut l lo hi)) := (rfl)
@[simp] theorem slice_lst {lo hi : Option Int} : D.slice (.lst l) lo hi = some (.lst (D.cut l lo hi)) := (rfl)
@[simp] theorem ix_tup {k : Int} : D.ix (.tup l) (.int k) = atI l k := (rfl)
@[simp] theorem ix_lst {k : Int} : D.ix (.lst l) (.int k) = atI l k := (rfl)
@[simp] theorem plain_int : (D.int i).plain = true := (rfl)
@[simp] theorem plain_str : (D.str x).plain = true := (rfl)
@[simp] theorem plain_bl : (D.bl a).plain = true := (rfl)
@[simp] theorem plain_non : D.non.plain = true := (rfl)
@[simp] theorem plain_tup : (D.tup l).plain = D.plains l := by rw [D.plain]
@[simp] theorem plain_lst : (D.lst l).plain = D.plains l := by rw [D.plain]
@[simp] theorem plains_nil : D.plains [] = true := (rfl)
@[simp] theorem plains_cons {d : D} : D.plains (d :: l) = (d.plain && D.plains l) := (rfl)
@[simp] theorem toPy_int : (D.int i).toPy = .int i := (rfl)
@[simp] theorem toPy_str : (D.str x).toPy = .str x := (rfl)
@[simp] theorem toPy_bl : (D.bl a).toPy = .bool a := (rfl)
@[simp] theorem toPy_non : D.non.toPy = .none := (rfl)
@[simp] theorem toPy_tup : (D.tup l).toPy = .tuple (D.toPys l) := by rw [D.toPy]
@[simp] theorem toPy_lst : (D.lst l).toPy = .list (D.toPys l) := by rw [D.toPy]
@[simp] theorem toPys_nil : D.toPys [] = [] := (rfl)
@[simp] theorem toPys_cons {d : D} : D.toPys (d :: l) = d.toPy :: D.toPys l := (rfl)
end
/-- what a def says at a level -/
theorem MD.fn_eq {m : MD} {i : Nat} {d : FnD} (h : m.defs.lookup i = some d) (l : Nat) : (m.tb (l + 1)).fn i = defF d.n d.N.length (d.a.run (m.tb l)) := by
  funext ds
  show (match m.defs.lookup i with | some d => defF d.n d.N.length (d.a.run (m.tb l)) ds | none => _) = _
  rw [h]
theorem MD.gl_eq {m : MD} {i : Nat} {x : Str} {g : GlD} (h : m.gls.lookup i = some (x, g)) (l : Nat) : (m.tb l).gl i = g.d := by
  cases l <;> (show ((m.gls.lookup i).map (·.2.d)).getD .non = _; rw [h]; rfl)
/-- a def by its body -/
def FnD.go (d : FnD) (B : Tb) : List D → M D := defF d.n d.N.length (d.a.run B)
end MW
end
section
set_option Elab.async false
set_option autoImplicit false
set_option maxRecDepth 100000
/-! PL2: equality of texts and numbers; items; cuts. -/
namespace MW
open PySem L2
theorem beqC {α : Type} [BEq α] [LawfulBEq α] (x y : α) : (x == y) = (y == x) := by
  cases h : x == y with
  | true => rw [beq_iff_eq.mp h]; simp
  | false =>
    cases h' : y == x with
    | true => rw [beq_iff_eq.mp h'] at h; simp at h
    | false => rfl
@[simp] theorem fits_eq (n : Nat) : fits n = decide (n ≤ 16777216) := by
  unfold fits
  rw [sizeLine_eq]
section
variable {i j k : Int} {x y z : Str} {l m : List D} {a b : Bool}
@[simp] theorem eq_int : D.cop .eq (.int i) (.int j) = some (decide (i = j)) := by
  simp [D.cop, D.eqv, PyData.eqv, PyData.depth]
  rfl
@[simp] theorem ne_int : D.cop .ne (.int i) (.int j) = some (!decide (i = j)) := by
  simp [D.cop, D.eqv, PyData.eqv, PyData.depth]
  rfl
@[simp] theorem eq_str : D.cop .eq (.str x) (.str y) = some (decide (x = y)) := by
  simp [D.cop, D.eqv, PyData.eqv, PyData.depth]
  rfl
@[simp] theorem ne_str : D.cop .ne (.str x) (.str y) = some (!decide (x = y)) := by
  simp [D.cop, D.eqv, PyData.eqv, PyData.depth]
  rfl
@[simp] theorem eq_bl : D.cop .eq (.bl a) (.bl b) = some (decide (a = b)) := by
  simp [D.cop, D.eqv, PyData.eqv, PyData.depth]
  cases a <;> cases b <;> rfl
@[simp] theorem isin_str2 : D.cop .isin (.str x) (.tup [.str y, .str z]) = some (decide (x = y) || decide (x = z)) := by
  simp [D.cop, D.isin, PyData.eqv, PyData.depth, PyData.depthAll]
  rw [beqC y x, beqC z x]; rfl
@[simp] theorem isin_strL2 : D.cop .isin (.str x) (.lst [.str y, .str z]) = some (decide (x = y) || decide (x = z)) := by
  simp [D.cop, D.isin, PyData.eqv, PyData.depth, PyData.depthAll]
  rw [beqC y x, beqC z x]; rfl
@[simp] theorem notin_int2 : D.cop .notin (.int i) (.tup [.int j, .int k]) = some !(decide (i = j) || decide (i = k)) := by
  simp [D.cop, D.isin, PyData.eqv, PyData.depth, PyData.depthAll]
  rw [beqC j i, beqC k i]; rfl
/-- a list that is compared with an empty one -/
@[simp] theorem eq_nilT : D.cop .eq (.tup l) (.tup []) = some l.isEmpty := (rfl)
@[simp] theorem eq_nilL : D.cop .eq (.lst l) (.lst []) = some l.isEmpty := (rfl)
@[simp] theorem ne_nilT : D.cop .ne (.tup l) (.tup []) = some !l.isEmpty := (rfl)
@[simp] theorem ne_nilL : D.cop .ne (.lst l) (.lst []) = some !l.isEmpty := (rfl)
end
section
variable {α : Type}
theorem ixN_nat {n : Nat} {i : Nat} (h : i < n) : ixN n (i : Int) = some i := by
  unfold ixN
  rw [if_pos (by omega)]
  simp [h]
theorem atI_nat {l : List α} {i : Nat} (h : i < l.length) : atI l (i : Int) = l[i]? := by
  unfold atI
  rw [ixN_nat h]; rfl
@[simp] theorem atI_0 (x : α) (l : List α) : atI (x :: l) 0 = some x := by
  have := atI_nat (l := x :: l) (i := 0) (by simp)
  simpa using this
@[simp] theorem atI_1 (x y : α) (l : List α) : atI (x :: y :: l) 1 = some y := by
  have := atI_nat (l := x :: y :: l) (i := 1) (by simp)
  simpa using this
@[simp] theorem atI_2 (x y z : α) (l : List α) : atI (x :: y :: z :: l) 2 = some z := by
  have := atI_nat (l := x :: y :: z :: l) (i := 2) (by simp)
  simpa using this
@[simp] theorem atI_3 (x y z u : α) (l : List α) : atI (x :: y :: z :: u :: l) 3 = some u := by
  have := atI_nat (l := x :: y :: z :: u :: l) (i := 3) (by simp)
  simpa using this
end
theorem cut_to {l : List D} {n : Nat} (h : n ≤ l.length) : D.cut l none (some (n : Int)) = l.take n := by
  unfold D.cut
  rw [HT.sIx_none, HT.sIx_nat]
  simp [Nat.min_eq_left h]
theorem cut_from {l : List D} {n : Nat} (h : n ≤ l.length) : D.cut l (some (n : Int)) none = l.drop n := by
  unfold D.cut
  rw [HT.sIx_none, HT.sIx_nat, Nat.min_eq_left h]
  exact List.take_of_length_le (by simp)
@[simp] theorem cut4a {p q r s : D} : D.cut [p, q, r, s] none (some 2) = [p, q] := cut_to (l := [p, q, r, s]) (n := 2) (by simp)
@[simp] theorem cut4b {p q r s : D} : D.cut [p, q, r, s] (some 2) none = [r, s] := cut_from (l := [p, q, r, s]) (n := 2) (by simp)

/-! ### written texts -/
theorem char_inj {a b : Char} (h : a.toNat = b.toNat) : a = b := by
  apply Char.ext
  exact UInt32.toNat_inj.mp h
theorem map_inj_list {α β : Type} {f : α → β} (hf : ∀ a b, f a = f b → a = b) : ∀ {l m : List α}, l.map f = m.map f → l = m
  | [], [], _ => rfl
  | a :: l, b :: m, h => by
    rw [List.map_cons, List.map_cons] at h
    injection h with h1 h2
    rw [hf _ _ h1, map_inj_list hf h2]
  | [], _ :: _, h => by cases h
  | _ :: _, [], h => by cases h
@[simp] theorem ofS_inj {a b : String} : (Str.ofString a = Str.ofString b) ↔ a = b := by
  constructor
  · intro h
    rw [Str.ofString_eq_toList, Str.ofString_eq_toList] at h
    injection h with h
    have h2 := congrArg Array.toList h
    simp only [] at h2
    have := map_inj_list (f := Char.toNat) (fun _ _ => char_inj) h2
    exact String.toList_inj.mp this
  · intro h; rw [h]
/-! ### comprehensions -/
@[simp] theorem compBody_eq {own : List Nat} {T : Tg} {ft : En → M Bool} {fe : En → M D} {ρ : En} {d : D} : compBody own T ft fe ρ d = M.bind (M.opt (T.put d (wipeD ρ own))) fun ρ1 => M.bind (ft ρ1) fun b => if b then M.bind (fe ρ1) fun y => M.pure (some y) else M.pure none := (rfl)
@[simp] theorem wipeD_nil {ρ : En} : wipeD ρ [] = ρ := (rfl)
@[simp] theorem wipeD_cons {ρ : En} {i : Nat} {l : List Nat} : wipeD ρ (i :: l) = (wipeD ρ l).set i none := (rfl)
@[simp] theorem fComp_eq {own : List Nat} {T : Tg} {fi : En → M (List D)} {ft : En → M Bool} {fe : En → M D} {ρ : En} : fComp own T fi ft fe ρ = M.bind (fi ρ) fun ds => M.bind (compL (compBody own T ft fe ρ) ds []) fun l => M.pure (.lst l) := (rfl)
theorem compL_cons {body : D → M (Option D)} {d : D} {ds acc : List D} : compL body (d :: ds) acc = M.bind (M.quiet (body d)) fun o => match o with
    | none => compL body ds acc
    | some y => if fits (acc.length + 1) then compL body ds (acc ++ [y]) else M.bad := by
  funext w
  rw [compL] <;> rfl
theorem compL_pure {body : D → M (Option D)} {g : D → Option D} : ∀ {ds acc : List D}, (∀ d ∈ ds, body d = M.pure (g d)) → acc.length + ds.length ≤ 16777216 → compL body ds acc = M.pure (acc ++ ds.filterMap g)
  | [], acc, _, _ => by simp
  | d :: ds, acc, h, hl => by
    rw [List.length_cons] at hl
    rw [compL_cons, h d List.mem_cons_self, quiet_pure, bind_pure, List.filterMap_cons]
    cases e : g d with
    | none => exact compL_pure (fun x hx => h x (List.mem_cons_of_mem _ hx)) (by omega)
    | some y =>
      simp only [fits_eq, decide_eq_true_eq]
      rw [if_pos (by omega), compL_pure (fun x hx => h x (List.mem_cons_of_mem _ hx)) (by rw [List.length_append]; simp; omega)]
      simp
/-- all items are kept -/
theorem compL_map {body : D → M (Option D)} (g : D → D) {ds : List D} (h : ∀ d ∈ ds, body d = M.pure (some (g d))) (hl : ds.length ≤ 16777216) : compL body ds [] = M.pure (ds.map g) := by
  rw [compL_pure (g := fun d => some (g d)) h (by simpa using hl)]
  congr 1
  rw [List.nil_append]
  rw [List.filterMap_eq_map']
theorem compL_filter {body : D → M (Option D)} (p : D → Bool) (g : D → D) {ds : List D} (h : ∀ d ∈ ds, body d = M.pure (if p d then some (g d) else none)) (hl : ds.length ≤ 16777216) : compL body ds [] = M.pure ((ds.filter p).map g) := by
  rw [compL_pure (g := fun d => if p d then some (g d) else none) h (by simpa using hl)]
  congr 1
  rw [List.nil_append]
  induction ds with
  | nil => rfl
  | cons d ds ih =>
    rw [List.filterMap_cons, List.filter_cons]
    have ih' := ih (fun x hx => h x (List.mem_cons_of_mem _ hx)) (by simp at hl; omega)
    cases p d <;> simp [ih']
@[simp] theorem toBls_map {α : Type} (f : α → Bool) : ∀ l : List α, D.toBls (l.map fun x => .bl (f x)) = some (l.map f)
  | [] => rfl
  | x :: l => by
    rw [List.map_cons, List.map_cons]
    show (D.toBls (l.map fun x => .bl (f x))).map (f x :: ·) = _
    rw [toBls_map f l]; rfl
@[simp] theorem toInts_map {α : Type} (f : α → Int) : ∀ l : List α, D.toInts (l.map fun x => .int (f x)) = some (l.map f)
  | [] => rfl
  | x :: l => by
    rw [List.map_cons, List.map_cons]
    show (D.toInts (l.map fun x => .int (f x))).map (f x :: ·) = _
    rw [toInts_map f l]; rfl
@[simp] theorem bAll_map {α : Type} (f : α → Bool) (l : List α) : D.bAll [.lst (l.map fun x => .bl (f x))] = some (.bl (l.all f)) := by
  show (D.toBls _).map _ = _
  rw [toBls_map, Option.map_some, List.all_map]; rfl
@[simp] theorem bAny_map {α : Type} (f : α → Bool) (l : List α) : D.bAny [.lst (l.map fun x => .bl (f x))] = some (.bl (l.any f)) := by
  show (D.toBls _).map _ = _
  rw [toBls_map, Option.map_some, List.any_map]; rfl
@[simp] theorem bSum_map {α : Type} (f : α → Int) (l : List α) : D.bSum [.lst (l.map fun x => .int (f x))] = some (.int (l.map f).sum) := by
  show (D.toInts _).map _ = _
  rw [toInts_map, Option.map_some]

/-! ### loops, by a typed state -/
/-- a loop's turns: on with a state, or out with a value -/
def runL {S : Type} (step : D → S → M (S ⊕ D)) : List D → S → M (S ⊕ D)
  | [], s => M.pure (.inl s)
  | d :: ds, s => M.bind (step d s) fun r => match r with
    | .inl s' => runL step ds s'
    | .inr d => M.pure (.inr d)
def runP {S : Type} (step : Nat → D → S → M (S ⊕ D)) : Nat → List D → S → M (S ⊕ D)
  | _, [], s => M.pure (.inl s)
  | k, d :: ds, s => M.bind (step k d s) fun r => match r with
    | .inl s' => runP step (k + 1) ds s'
    | .inr d => M.pure (.inr d)
def toFl {S : Type} (E : S → En) : S ⊕ D → Fl
  | .inl s => .nx (E s)
  | .inr d => .rt d
@[simp] theorem toFl_inl {S : Type} (E : S → En) (s : S) : toFl E (.inl s) = .nx (E s) := (rfl)
@[simp] theorem toFl_inr {S : Type} (E : S → En) (d : D) : toFl E (.inr d) = .rt d := (rfl)
theorem forL_run {S : Type} (E : S → En) (step : D → S → M (S ⊕ D)) {T : Tg} {body : En → M Fl} : ∀ {ds : List D} {ρ : En} (s : S), ρ = E s →
    (∀ d ∈ ds, ∀ s, M.bind (M.opt (T.put d (E s))) body = M.bind (step d s) fun r => M.pure (toFl E r)) → forL T body ds ρ = M.bind (runL step ds s) fun r => M.pure (toFl E r)
  | [], _, s, rfl, _ => rfl
  | d :: ds, _, s, rfl, h => by
    rw [forL_cons, ← bind_assoc, h d List.mem_cons_self s, runL, bind_assoc, bind_assoc]
    congr 1
    funext r
    cases r with
    | inl s' => exact forL_run E step s' rfl fun x hx => h x (List.mem_cons_of_mem _ hx)
    | inr d => rfl
theorem forL_runP {S : Type} (E : S → En) (step : Nat → D → S → M (S ⊕ D)) {T : Tg} {body : En → M Fl} : ∀ {ds : List D} {k : Nat} {ρ : En} (s : S), ρ = E s →
    (∀ d ∈ ds, ∀ (k : Nat) (s : S), M.bind (M.opt (T.put (.tup [.int k, d]) (E s))) body = M.bind (step k d s) fun r => M.pure (toFl E r)) → forL T body (pairsD k ds) ρ = M.bind (runP step k ds s) fun r => M.pure (toFl E r)
  | [], _, _, s, rfl, _ => rfl
  | d :: ds, k, _, s, rfl, h => by
    show forL T body (.tup [.int k, d] :: pairsD (k + 1) ds) (E s) = _
    rw [forL_cons, ← bind_assoc, h d List.mem_cons_self k s, runP, bind_assoc, bind_assoc]
    congr 1
    funext r
    cases r with
    | inl s' => exact forL_runP E step s' rfl fun x hx => h x (List.mem_cons_of_mem _ hx)
    | inr d => rfl
end MW
end
section
set_option Elab.async false
set_option maxRecDepth 100000
namespace MW
open PySem L2
def F_is_number_0 : FnD := ⟨"is_number", ["thing", "least", "most"], 3, (.cons (.ret (.and (.isTy (.var 0) .int) (.and (.not (.isTy (.var 0) .bool)) (.chain .le .le (.var 1) (.var 0) (.var 2)))))
  .nil)⟩
def F_is_side_1 : FnD := ⟨"is_side", ["thing"], 1, (.cons (.ret (.and (.isTy (.var 0) .str) (.cmp .isin (.var 0) (.glb 5))))
  .nil)⟩
def F_is_spot_of_2 : FnD := ⟨"is_spot_of", ["many", "matches", "thing"], 3, (.cons (.ifs (.or (.not (.isTy (.var 2) .tuple)) (.or (.cmp .notin (.blt .len (.cons (.var 2) .nil)) (.tup (.cons (.int 2) (.cons (.int 3) .nil)))) (.not (.isTy (.ix (.var 2) (.int 0)) .str)))) (.cons (.ret (.bl false))
  .nil) .nil)
  (.cons (.ifs (.cmp .eq (.blt .len (.cons (.var 2) .nil)) (.int 2)) (.cons (.ret (.and (.cmp .eq (.ix (.var 2) (.int 0)) (.glb 4)) (.call 0 (.cons (.ix (.var 2) (.int 1)) (.cons (.int 0) (.cons (.bin .sub (.var 0) (.int 1)) .nil))))))
  .nil) .nil)
  (.cons (.ret (.and (.cmp .eq (.ix (.var 2) (.int 0)) (.glb 3)) (.and (.call 0 (.cons (.ix (.var 2) (.int 1)) (.cons (.int 0) (.cons (.bin .sub (.var 1) (.int 1)) .nil)))) (.call 1 (.cons (.ix (.var 2) (.int 2)) .nil)))))
  .nil)))⟩
def F_is_item_3 : FnD := ⟨"is_item", ["many", "matches", "number", "thing", "spot"], 4, (.cons (.ifs (.or (.not (.isTy (.var 3) .tuple)) (.cmp .ne (.blt .len (.cons (.var 3) .nil)) (.int 4))) (.cons (.ret (.bl false))
  .nil) .nil)
  (.cons (.ifs (.not (.blt .all (.cons (.comp [4] (.one 4) (.seq (.var 3)) (.bl true) (.call 2 (.cons (.var 0) (.cons (.var 1) (.cons (.var 4) .nil))))) .nil))) (.cons (.ret (.bl false))
  .nil) .nil)
  (.cons (.ret (.blt .all (.cons (.comp [4] (.one 4) (.seq (.var 3)) (.bl true) (.or (.cmp .eq (.ix (.var 4) (.int 0)) (.glb 4)) (.cmp .gt (.ix (.var 4) (.int 1)) (.var 2)))) .nil)))
  .nil)))⟩
def F_is_switch_4 : FnD := ⟨"is_switch", ["item"], 1, (.cons (.ret (.cmp .ne (.blt .sorted (.cons (.sl (.var 0) .no (.yes (.int 2))) .nil)) (.blt .sorted (.cons (.sl (.var 0) (.yes (.int 2)) .no) .nil))))
  .nil)⟩
def F_need_web_5 : FnD := ⟨"need_web", ["thing", "starts", "items", "number", "spot", "found", "item"], 1, (.cons (.ifs (.or (.not (.isTy (.var 0) .tuple)) (.or (.cmp .ne (.blt .len (.cons (.var 0) .nil)) (.int 2)) (.not (.isTy (.ix (.var 0) (.int 0)) .tuple)))) (.cons (.raise_ 1 (.tup .nil))
  .nil) .nil)
  (.cons (.asgs [(.nm 1), (.nm 2)] (.var 0))
  (.cons (.ifs (.or (.not (.isTy (.var 2) .tuple)) (.or (.not (.chain .le .le (.int 1) (.blt .len (.cons (.var 1) .nil)) (.glb 0))) (.cmp .gt (.blt .len (.cons (.var 2) .nil)) (.glb 1)))) (.cons (.raise_ 1 (.tup .nil))
  .nil) .nil)
  (.cons (.for_ (.tup [3, 4]) (.pairs (.var 1)) (.cons (.ifs (.not (.call 2 (.cons (.blt .len (.cons (.var 1) .nil)) (.cons (.blt .len (.cons (.var 2) .nil)) (.cons (.var 4) .nil))))) (.cons (.raise_ 1 (.tup (.cons (.str "start") (.cons (.var 3) .nil))))
  .nil) .nil)
  .nil))
  (.cons (.set 5 (.int 0))
  (.cons (.for_ (.tup [3, 6]) (.pairs (.var 2)) (.cons (.ifs (.not (.call 3 (.cons (.blt .len (.cons (.var 1) .nil)) (.cons (.blt .len (.cons (.var 2) .nil)) (.cons (.var 3) (.cons (.var 6) .nil)))))) (.cons (.raise_ 1 (.tup (.cons (.str "match") (.cons (.var 3) .nil))))
  .nil) .nil)
  (.cons (.set 5 (.bin .add (.var 5) (.ite (.call 4 (.cons (.var 6) .nil)) (.int 1) (.int 0))))
  (.cons (.ifs (.cmp .gt (.var 5) (.glb 2)) (.cons (.raise_ 1 (.tup (.cons (.str "match") (.cons (.var 3) .nil))))
  .nil) .nil)
  .nil))))
  (.cons (.ret (.var 0))
  .nil)))))))⟩
def F_is_web_6 : FnD := ⟨"is_web", ["thing"], 1, (.cons (.try_ [1] none .expr (.call 5 (.cons (.var 0) .nil)) (.ret (.bl false)))
  (.cons (.ret (.bl true))
  .nil))⟩
def F_L_begun_7 : FnD := ⟨"_law_begun", ["_law_script", "_law_mixed", "_law_k", "_law_cell"], 1, (.cons (.set 1 (.bin .add (.int 32452843) (.bin .mul (.int 41) (.blt .len (.cons (.var 0) .nil)))))
  (.cons (.for_ (.tup [2, 3]) (.pairs (.var 0)) (.cons (.set 1 (.bin .mod (.blt .int (.cons (.bin .add (.bin .add (.bin .mul (.var 1) (.int 998244353)) (.var 3)) (.bin .mul (.int 104723) (.var 2))) .nil)) (.int 2305843009213693951)))
  .nil))
  (.cons (.ret (.mkDraw (.var 1) (.comp [3] (.one 3) (.seq (.var 0)) (.cmp .ge (.var 3) (.bin .pow (.int 10) (.int 18))) (.var 3)) (.int 0)))
  .nil)))⟩
def F_L_next_8 : FnD := ⟨"_law_next", ["_law_draw", "_law_below", "_law_great", "_law_at", "_law_found", "_law_mixed"], 2, (.cons (.asgs [(.dsub 0 "turn"), (.nm 2)] (.tup (.cons (.bin .add (.dget (.var 0) "turn") (.int 1)) (.cons (.dget (.var 0) "great") .nil))))
  (.cons (.set 3 (.bin .mod (.blt .int (.cons (.dget (.var 0) "turn") .nil)) (.blt .max (.cons (.int 1) (.cons (.glen (.var 2)) .nil)))))
  (.cons (.ifs (.and (.gne (.var 2)) (.cmp .gt (.gix (.var 2) (.var 3)) (.int 0))) (.cons (.set 4 (.bin .mod (.blt .int (.cons (.gix (.var 2) (.var 3)) .nil)) (.var 1)))
  (.cons (.asg (.gsub 2 (.var 3)) (.bin .fdiv (.gix (.var 2) (.var 3)) (.var 1)))
  (.cons (.drop [4] (.ret (.var 4)))
  .nil))) .nil)
  (.cons (.set 5 (.blt .int (.cons (.bin .add (.bin .add (.bin .mul (.dget (.var 0) "mixed") (.int 6364136223846793)) (.bin .mul (.int 1442695040888963) (.dget (.var 0) "turn"))) (.int 11)) .nil)))
  (.cons (.asg (.dsub 0 "mixed") (.bin .mod (.blt .int (.cons (.var 5) .nil)) (.int 2305843009213693951)))
  (.cons (.ret (.bin .mod (.blt .int (.cons (.bin .fdiv (.dget (.var 0) "mixed") (.int 32749)) .nil)) (.var 1)))
  .nil))))))⟩
def F_L_order_9 : FnD := ⟨"_law_order", ["_law_draw", "_law_many", "_law_left", "_law_found", "_law_at"], 2, (.cons (.par [2, 3] [true, true] (.cons (.lrg (.var 1)) (.cons (.lst .nil) .nil)))
  (.cons (.whl 1000000 (.cmp .ne (.var 2) (.lst .nil)) (.cons (.set 4 (.call 8 (.cons (.var 0) (.cons (.blt .len (.cons (.var 2) .nil)) .nil))))
  (.cons (.app 3 (.ix (.var 2) (.var 4)))
  (.cons (.set 2 (.bin .add (.sl (.var 2) .no (.yes (.var 4))) (.sl (.var 2) (.yes (.bin .add (.var 4) (.int 1))) .no)))
  .nil))))
  (.cons (.drop [3] (.ret (.var 3)))
  .nil)))⟩
def F_L_events_10 : FnD := ⟨"_law_events", ["_law_draw", "_law_many", "_law_most", "_law_found", "_law_size", "_law_deciders", "_law_turn", "_law_kind", "_law_near", "_law_far", "_law_side", "_law_more"], 3, (.cons (.par [3, 4, 5] [true, false, false] (.cons (.lst .nil) (.cons (.int 0) (.cons (.int 0) .nil))))
  (.cons (.for_ (.one 6) (.r1 (.cons (.ite (.cmp .gt (.var 1) (.int 1)) (.call 8 (.cons (.var 0) (.cons (.bin .add (.var 2) (.int 1)) .nil))) (.int 0)) .nil)) (.cons (.par [7, 8] [false, false] (.cons (.ix (.lst (.cons (.int 0) (.cons (.int 0) (.cons (.int 0) (.cons (.int 0) (.cons (.int 1) (.cons (.int 2) (.cons (.int 3) .nil)))))))) (.call 8 (.cons (.var 0) (.cons (.int 7) .nil)))) (.cons (.call 8 (.cons (.var 0) (.cons (.var 1) .nil))) .nil)))
  (.cons (.par [9, 10] [true, false] (.cons (.bin .mod (.blt .int (.cons (.bin .add (.bin .add (.var 8) (.int 1)) (.call 8 (.cons (.var 0) (.cons (.bin .sub (.var 1) (.int 1)) .nil)))) .nil)) (.var 1)) (.cons (.call 8 (.cons (.var 0) (.cons (.int 2) .nil))) .nil)))
  (.cons (.set 7 (.ite (.cmp .eq (.var 5) (.int 8)) (.int 0) (.var 7)))
  (.cons (.set 11 (.ix (.lst (.cons (.int 1) (.cons (.int 1) (.cons (.int 2) (.cons (.int 3) .nil))))) (.var 7)))
  (.cons (.ifs (.cmp .le (.bin .add (.var 4) (.var 11)) (.var 2)) (.cons (.drop [9] (.app 3 (.tup (.cons (.var 7) (.cons (.var 8) (.cons (.var 9) (.cons (.var 10) .nil)))))))
  (.cons (.par [4, 5] [true, true] (.cons (.bin .add (.var 4) (.var 11)) (.cons (.bin .add (.var 5) (.blt .int (.cons (.cmp .gt (.var 7) (.int 1)) .nil))) .nil)))
  .nil)) .nil)
  .nil))))))
  (.cons (.drop [3] (.ret (.var 3)))
  .nil)))⟩
def F_L_item_11 : FnD := ⟨"_law_item", ["_law_kind", "_law_up", "_law_down", "_law_side", "_law_number", "_law_second"], 5, (.cons (.set 5 (.tup (.cons (.tup (.cons (.str "match") (.cons (.bin .add (.var 4) (.int 1)) (.cons (.str "a") .nil)))) (.cons (.tup (.cons (.str "match") (.cons (.bin .add (.var 4) (.int 1)) (.cons (.str "b") .nil)))) .nil))))
  (.cons (.ifs (.cmp .eq (.var 0) (.int 0)) (.cons (.ret (.tup (.cons (.var 1) (.cons (.var 2) (.cons (.var 1) (.cons (.var 2) .nil))))))
  .nil) .nil)
  (.cons (.ifs (.cmp .eq (.var 0) (.int 1)) (.cons (.ret (.ite (.cmp .eq (.var 3) (.int 0)) (.tup (.cons (.var 1) (.cons (.var 2) (.cons (.var 2) (.cons (.var 1) .nil))))) (.tup (.cons (.var 2) (.cons (.var 1) (.cons (.var 1) (.cons (.var 2) .nil)))))))
  .nil) .nil)
  (.cons (.ifs (.cmp .eq (.var 0) (.int 3)) (.cons (.ret (.bin .add (.var 5) (.tup (.cons (.tup (.cons (.str "match") (.cons (.bin .add (.var 4) (.int 2)) (.cons (.str "a") .nil)))) (.cons (.tup (.cons (.str "match") (.cons (.bin .add (.var 4) (.int 2)) (.cons (.str "b") .nil)))) .nil)))))
  .nil) .nil)
  (.cons (.ret (.ite (.cmp .eq (.var 3) (.int 0)) (.bin .add (.tup (.cons (.var 1) (.cons (.var 2) .nil))) (.var 5)) (.bin .add (.var 5) (.tup (.cons (.var 1) (.cons (.var 2) .nil))))))
  .nil)))))⟩
def F_L_web_12 : FnD := ⟨"_law_web", ["_law_draw", "_law_many", "_law_most", "_law_events_here", "_law_here", "_law_items", "_law_end", "_law_number", "_law_event", "_law_kind", "_law_near", "_law_far", "_law_side", "_law_line"], 3, (.cons (.set 3 (.call 10 (.cons (.var 0) (.cons (.var 1) (.cons (.var 2) .nil)))))
  (.cons (.par [4, 5] [true, true] (.cons (.comp [6] (.one 6) (.seq (.call 9 (.cons (.var 0) (.cons (.var 1) .nil)))) (.bl true) (.tup (.cons (.str "place") (.cons (.var 6) .nil)))) (.cons (.lst .nil) .nil)))
  (.cons (.set 7 (.blt .sum (.cons (.comp [8] (.one 8) (.seq (.var 3)) (.bl true) (.ix (.lst (.cons (.int 1) (.cons (.int 1) (.cons (.int 2) (.cons (.int 3) .nil))))) (.ix (.var 8) (.int 0)))) .nil)))
  (.cons (.drop [7] (.for_ (.tup [9, 10, 11, 12]) (.seq (.rev (.var 3))) (.cons (.set 5 (.bin .add (.var 5) (.bin .mul (.lst (.cons (.tup (.cons (.ix (.var 4) (.var 10)) (.cons (.ix (.var 4) (.var 11)) (.cons (.ix (.var 4) (.var 10)) (.cons (.ix (.var 4) (.var 11)) .nil))))) .nil)) (.blt .max (.cons (.int 0) (.cons (.bin .sub (.var 9) (.int 1)) .nil))))))
  (.cons (.set 7 (.bin .sub (.var 7) (.ix (.lst (.cons (.int 1) (.cons (.int 1) (.cons (.int 2) (.cons (.int 3) .nil))))) (.var 9))))
  (.cons (.drop [7] (.app 5 (.call 11 (.cons (.var 9) (.cons (.ix (.var 4) (.var 10)) (.cons (.ix (.var 4) (.var 11)) (.cons (.var 12) (.cons (.var 7) .nil))))))))
  (.cons (.asgs [(.sub 4 (.var 10)), (.sub 4 (.var 11))] (.tup (.cons (.tup (.cons (.str "match") (.cons (.var 7) (.cons (.ix (.str "ab") (.var 12)) .nil)))) (.cons (.tup (.cons (.str "match") (.cons (.var 7) (.cons (.ix (.str "ba") (.var 12)) .nil)))) .nil))))
  .nil))))))
  (.cons (.set 5 (.rev (.var 5)))
  (.cons (.ifs (.and (.cmp .eq (.bin .mod (.blt .int (.cons (.var 1) .nil)) (.int 3)) (.int 0)) (.cmp .lt (.blt .len (.cons (.var 5) .nil)) (.var 2))) (.cons (.app 5 (.bin .mul (.tup (.cons (.tup (.cons (.str "place") (.cons (.int 0) .nil))) .nil)) (.int 4)))
  .nil) .nil)
  (.cons (.ret (.tup (.cons (.blt .tuple (.cons (.comp [13] (.one 13) (.seq (.call 9 (.cons (.var 0) (.cons (.var 1) .nil)))) (.bl true) (.ix (.var 4) (.var 13))) .nil)) (.cons (.blt .tuple (.cons (.var 5) .nil)) .nil))))
  .nil)))))))⟩
def F_L_is_number_13 : FnD := ⟨"_law_is_number", ["_law_thing", "_law_most"], 2, (.cons (.ret (.and (.isTy (.var 0) .int) (.and (.not (.isTy (.var 0) .bool)) (.chain .le .lt (.int 0) (.var 0) (.var 1)))))
  .nil)⟩
def F_L_is_spot_14 : FnD := ⟨"_law_is_spot", ["_law_many", "_law_size", "_law_thing"], 3, (.cons (.ifs (.or (.not (.isTy (.var 2) .tuple)) (.or (.cmp .eq (.var 2) (.tup .nil)) (.not (.isTy (.ix (.var 2) (.int 0)) .str)))) (.cons (.ret (.bl false))
  .nil) .nil)
  (.cons (.ifs (.cmp .eq (.ix (.var 2) (.int 0)) (.str "place")) (.cons (.ret (.and (.cmp .eq (.blt .len (.cons (.var 2) .nil)) (.int 2)) (.call 13 (.cons (.ix (.var 2) (.int 1)) (.cons (.var 0) .nil)))))
  .nil) .nil)
  (.cons (.ifs (.or (.cmp .ne (.ix (.var 2) (.int 0)) (.str "match")) (.or (.cmp .ne (.blt .len (.cons (.var 2) .nil)) (.int 3)) (.not (.call 13 (.cons (.ix (.var 2) (.int 1)) (.cons (.var 1) .nil)))))) (.cons (.ret (.bl false))
  .nil) .nil)
  (.cons (.ret (.and (.isTy (.ix (.var 2) (.int 2)) .str) (.cmp .isin (.ix (.var 2) (.int 2)) (.lst (.cons (.str "a") (.cons (.str "b") .nil))))))
  .nil))))⟩
def F_L_is_switch_15 : FnD := ⟨"_law_is_switch", ["_law_item_here"], 1, (.cons (.ret (.and (.cmp .ne (.lst (.cons (.ix (.var 0) (.int 0)) (.cons (.ix (.var 0) (.int 1)) .nil))) (.lst (.cons (.ix (.var 0) (.int 2)) (.cons (.ix (.var 0) (.int 3)) .nil)))) (.cmp .ne (.lst (.cons (.ix (.var 0) (.int 0)) (.cons (.ix (.var 0) (.int 1)) .nil))) (.lst (.cons (.ix (.var 0) (.int 3)) (.cons (.ix (.var 0) (.int 2)) .nil))))))
  .nil)⟩
def F_L_put_16 : FnD := ⟨"_law_put", ["_law_row", "_law_at", "_law_odd"], 3, (.cons (.ret (.bin .add (.bin .add (.sl (.var 0) .no (.yes (.var 1))) (.tup (.cons (.var 2) .nil))) (.sl (.var 0) (.yes (.bin .add (.var 1) (.int 1))) .no)))
  .nil)⟩
def F_L_spoilt_17 : FnD := ⟨"_law_spoilt", ["_law_draw", "_law_thing", "_law_some", "_law_odd", "_law_mode", "_law_at"], 3, (.cons (.par [3, 4] [false, false] (.cons (.ix (.var 2) (.call 8 (.cons (.var 0) (.cons (.blt .len (.cons (.var 2) .nil)) .nil)))) (.cons (.call 8 (.cons (.var 0) (.cons (.int 8) .nil))) .nil)))
  (.cons (.ifs (.or (.not (.isTy (.var 1) .tuple)) (.cmp .eq (.var 1) (.tup .nil))) (.cons (.ret (.var 3))
  .nil) .nil)
  (.cons (.set 5 (.call 8 (.cons (.var 0) (.cons (.blt .len (.cons (.var 1) .nil)) .nil))))
  (.cons (.ifs (.and (.cmp .gt (.var 4) (.int 3)) (.isTy (.ix (.var 1) (.var 5)) .tuple)) (.cons (.ret (.call 16 (.cons (.var 1) (.cons (.var 5) (.cons (.call 17 (.cons (.var 0) (.cons (.ix (.var 1) (.var 5)) (.cons (.var 2) .nil)))) .nil)))))
  .nil) .nil)
  (.cons (.ifs (.cmp .eq (.var 4) (.int 0)) (.cons (.ret (.bin .add (.sl (.var 1) .no (.yes (.var 5))) (.sl (.var 1) (.yes (.bin .add (.var 5) (.int 1))) .no)))
  .nil) .nil)
  (.cons (.ifs (.cmp .eq (.var 4) (.int 1)) (.cons (.ret (.bin .add (.bin .add (.sl (.var 1) .no (.yes (.var 5))) (.rev (.sl (.var 1) (.yes (.var 5)) (.yes (.bin .add (.var 5) (.int 2)))))) (.sl (.var 1) (.yes (.bin .add (.var 5) (.int 2))) .no)))
  .nil) .nil)
  (.cons (.ifs (.cmp .eq (.var 4) (.int 2)) (.cons (.ret (.bin .add (.bin .add (.sl (.var 1) .no (.yes (.var 5))) (.tup (.cons (.ix (.var 1) (.var 5)) .nil))) (.sl (.var 1) (.yes (.var 5)) .no)))
  .nil) .nil)
  (.cons (.ret (.ite (.cmp .gt (.var 4) (.int 4)) (.call 16 (.cons (.var 1) (.cons (.var 5) (.cons (.var 3) .nil)))) (.bin .add (.bin .add (.sl (.var 1) .no (.yes (.var 5))) (.tup (.cons (.var 3) .nil))) (.sl (.var 1) (.yes (.var 5)) .no))))
  .nil))))))))⟩
def F_L_item_wrong_18 : FnD := ⟨"_law_item_wrong", ["_law_many", "_law_size", "_law_number", "_law_item_here", "_law_spot"], 4, (.cons (.ifs (.or (.not (.isTy (.var 3) .tuple)) (.cmp .ne (.blt .len (.cons (.var 3) .nil)) (.int 4))) (.cons (.ret (.bl true))
  .nil) .nil)
  (.cons (.for_ (.one 4) (.seq (.var 3)) (.cons (.ifs (.or (.not (.call 14 (.cons (.var 0) (.cons (.var 1) (.cons (.var 4) .nil))))) (.and (.cmp .eq (.ix (.var 4) (.int 0)) (.str "match")) (.cmp .le (.ix (.var 4) (.int 1)) (.var 2)))) (.cons (.ret (.bl true))
  .nil) .nil)
  .nil))
  (.cons (.ret (.bl false))
  .nil)))⟩
def F_L_wrong_19 : FnD := ⟨"_law_wrong", ["_law_thing", "_law_begins", "_law_items", "_law_k", "_law_spot", "_law_found", "_law_item_here"], 1, (.cons (.ifs (.or (.not (.isTy (.var 0) .tuple)) (.cmp .ne (.blt .len (.cons (.var 0) .nil)) (.int 2))) (.cons (.ret (.lst (.cons (.tup .nil) .nil)))
  .nil) .nil)
  (.cons (.asgs [(.nm 1), (.nm 2)] (.var 0))
  (.cons (.ifs (.or (.not (.isTy (.var 1) .tuple)) (.not (.isTy (.var 2) .tuple))) (.cons (.ret (.lst (.cons (.tup .nil) .nil)))
  .nil) .nil)
  (.cons (.ifs (.or (.not (.chain .le .le (.int 1) (.blt .len (.cons (.var 1) .nil)) (.int 16))) (.cmp .gt (.blt .len (.cons (.var 2) .nil)) (.int 40))) (.cons (.ret (.lst (.cons (.tup .nil) .nil)))
  .nil) .nil)
  (.cons (.for_ (.tup [3, 4]) (.pairs (.var 1)) (.cons (.ifs (.not (.call 14 (.cons (.blt .len (.cons (.var 1) .nil)) (.cons (.blt .len (.cons (.var 2) .nil)) (.cons (.var 4) .nil))))) (.cons (.ret (.lst (.cons (.tup (.cons (.str "start") (.cons (.var 3) .nil))) .nil)))
  .nil) .nil)
  .nil))
  (.cons (.set 5 (.int 0))
  (.cons (.for_ (.tup [3, 6]) (.pairs (.var 2)) (.cons (.ifs (.call 18 (.cons (.blt .len (.cons (.var 1) .nil)) (.cons (.blt .len (.cons (.var 2) .nil)) (.cons (.var 3) (.cons (.var 6) .nil))))) (.cons (.ret (.lst (.cons (.tup (.cons (.str "match") (.cons (.var 3) .nil))) .nil)))
  .nil) .nil)
  (.cons (.set 5 (.bin .add (.var 5) (.blt .int (.cons (.call 15 (.cons (.var 6) .nil)) .nil))))
  (.cons (.ifs (.cmp .gt (.var 5) (.int 8)) (.cons (.ret (.lst (.cons (.tup (.cons (.str "match") (.cons (.var 3) .nil))) .nil)))
  .nil) .nil)
  .nil))))
  (.cons (.ret (.lst .nil))
  .nil))))))))⟩
def F_L_told_20 : FnD := ⟨"_law_told", ["_law_thing", "_law_found", "_law_caught", "e"], 1, (.cons (.par [1, 2] [false, false] (.cons .non (.cons .non .nil)))
  (.cons (.try_ [0] (some 3) (.set 1) (.call 5 (.cons (.var 0) .nil)) (.set 2 (.var 3)))
  (.cons (.ifs (.isN (.var 2)) (.cons (.ret (.lst (.cons (.str "told") (.cons (.var 1) .nil))))
  .nil) .nil)
  (.cons (.ifs (.or (.not (.isE (.var 2) 1)) (.isE2 (.var 2) 3 2)) (.cons (.ret (.lst (.cons (.str "other") .nil)))
  .nil) .nil)
  (.cons (.ret (.lst (.cons (.str "place") (.cons (.exA (.var 2) "place") .nil))))
  .nil)))))⟩
def F_L_right_21 : FnD := ⟨"_law_right", ["_law_thing", "_law_wrong_here", "_law_kept", "_law_due"], 1, (.cons (.par [1, 2] [false, true] (.cons (.call 19 (.cons (.var 0) .nil)) (.cons (.blt .repr (.cons (.var 0) .nil)) .nil)))
  (.cons (.set 3 (.ite (.cmp .eq (.var 1) (.lst .nil)) (.lst (.cons (.str "told") (.cons (.var 0) .nil))) (.lst (.cons (.str "place") (.cons (.ix (.var 1) (.int 0)) .nil)))))
  (.cons (.drop [3] (.ifs (.or (.cmp .ne (.blt .repr (.cons (.lst (.cons (.call 20 (.cons (.var 0) .nil)) (.cons (.call 20 (.cons (.var 0) .nil)) .nil))) .nil)) (.blt .repr (.cons (.lst (.cons (.var 3) (.cons (.var 3) .nil))) .nil))) (.cmp .ne (.blt .repr (.cons (.var 0) .nil)) (.var 2))) (.cons (.ret (.bl false))
  .nil) .nil))
  (.cons (.ret (.cmp .eq (.blt .repr (.cons (.lst (.cons (.call 6 (.cons (.var 0) .nil)) (.cons (.call 6 (.cons (.var 0) .nil)) .nil))) .nil)) (.blt .repr (.cons (.bin .mul (.lst (.cons (.cmp .eq (.var 1) (.lst .nil)) .nil)) (.int 2)) .nil))))
  .nil))))⟩
def F_L_by_hand_22 : FnD := ⟨"_law_by_hand", ["_law_spot", "_law_end", "_law_swap", "_law_plain", "_law_begins", "_law_rows", "_law_items", "_law_things", "_law_thing"], 0, (.cons (.par [0, 1] [false, false] (.cons (.tup (.cons (.str "place") (.cons (.int 0) .nil))) (.cons (.tup (.cons (.str "place") (.cons (.int 1) .nil))) .nil)))
  (.cons (.par [2, 3] [false, false] (.cons (.tup (.cons (.var 0) (.cons (.var 1) (.cons (.var 0) (.cons (.var 0) .nil))))) (.cons (.tup (.cons (.var 0) (.cons (.var 1) (.cons (.var 1) (.cons (.var 0) .nil))))) .nil)))
  (.cons (.for_ (.one 4) (.seq (.tup (.cons (.bin .mul (.tup (.cons (.var 0) .nil)) (.int 16)) (.cons (.bin .mul (.tup (.cons (.var 0) .nil)) (.int 17)) (.cons (.tup .nil) .nil))))) (.cons (.set 5 (.lst (.cons (.bin .mul (.tup (.cons (.var 3) .nil)) (.int 40)) (.cons (.bin .mul (.tup (.cons (.var 3) .nil)) (.int 41)) (.cons (.bin .add (.bin .mul (.tup (.cons (.var 2) .nil)) (.int 8)) (.tup (.cons (.var 3) .nil))) (.cons (.bin .mul (.tup (.cons (.var 2) .nil)) (.int 9)) (.cons (.bin .mul (.tup (.cons (.var 3) (.cons (.var 2) .nil))) (.int 9)) .nil)))))))
  (.cons (.drop [5] (.ifs (.cmp .ne (.comp [6] (.one 6) (.seq (.var 5)) (.not (.call 21 (.cons (.tup (.cons (.var 4) (.cons (.var 6) .nil))) .nil))) (.var 6)) (.lst .nil)) (.cons (.ret (.bl false))
  .nil) .nil))
  .nil)))
  (.cons (.set 7 (.lst (.cons .non (.cons (.tup .nil) (.cons (.tup (.cons (.tup (.cons (.var 0) .nil)) .nil)) (.cons (.lst (.cons (.tup (.cons (.var 0) .nil)) (.cons (.tup .nil) .nil))) (.cons (.tup (.cons (.tup (.cons (.var 0) .nil)) (.cons (.lst (.cons (.var 3) .nil)) .nil))) (.cons (.tup (.cons (.tup (.cons (.var 0) .nil)) (.cons (.tup .nil) (.cons (.tup .nil) .nil)))) (.cons (.tup (.cons (.str "a") (.cons (.tup .nil) .nil))) (.cons (.tup (.cons (.tup (.cons (.var 0) .nil)) (.cons .non .nil))) .nil))))))))))
  (.cons (.drop [7] (.ifs (.cmp .ne (.comp [8] (.one 8) (.seq (.var 7)) (.not (.call 21 (.cons (.var 8) .nil))) (.var 8)) (.lst .nil)) (.cons (.ret (.bl false))
  .nil) .nil))
  (.cons (.ret (.cmp .eq (.lst (.cons (.glb 0) (.cons (.glb 1) (.cons (.glb 2) .nil)))) (.lst (.cons (.int 16) (.cons (.int 40) (.cons (.int 8) .nil))))))
  .nil))))))⟩
def F_law_23 : FnD := ⟨"law", ["_law_script", "_law_draw", "_law_turn", "_law_plan", "_law_some", "_law_lap", "_law_thing"], 1, (.cons (.set 1 (.call 7 (.cons (.var 0) .nil)))
  (.cons (.for_ (.one 2) (.r1 (.cons (.bin .add (.int 2) (.bin .fdiv (.blt .min (.cons (.int 60) (.cons (.blt .len (.cons (.var 0) .nil)) .nil))) (.int 8))) .nil)) (.cons (.set 3 (.call 12 (.cons (.var 1) (.cons (.bin .add (.int 1) (.call 8 (.cons (.var 1) (.cons (.int 16) .nil)))) (.cons (.ix (.lst (.cons (.int 40) (.cons (.int 9) (.cons (.int 3) .nil)))) (.call 8 (.cons (.var 1) (.cons (.int 3) .nil)))) .nil)))))
  (.cons (.ifs (.or (.cmp .ne (.call 19 (.cons (.var 3) .nil)) (.lst .nil)) (.not (.call 21 (.cons (.var 3) .nil)))) (.cons (.ret (.bl false))
  .nil) .nil)
  (.cons (.set 4 (.lst (.cons .non (.cons (.bl true) (.cons (.int 0) (.cons (.int 40) (.cons (.bin .sub (.int 0) (.int 1)) (.cons (.str "") (.cons (.str "a") (.cons (.str "c") (.cons (.str "match") (.cons (.str "place") (.cons (.tup .nil) (.cons (.lst .nil) (.cons .dict0 (.cons (.tup (.cons (.str "place") (.cons (.int 0) .nil))) (.cons (.tup (.cons (.str "place") (.cons (.bl true) .nil))) .nil)))))))))))))))))
  (.cons (.set 4 (.bin .add (.var 4) (.lst (.cons (.tup (.cons (.str "match") (.cons (.int 0) (.cons (.str "a") .nil)))) (.cons (.tup (.cons (.str "match") (.cons (.int 39) (.cons (.str "b") .nil)))) (.cons (.tup (.cons (.str "place") (.cons (.bin .pow (.int 10) (.int 29)) .nil))) (.cons (.tup (.cons (.str "match") (.cons (.int 1) (.cons (.str "c") .nil)))) (.cons (.ix (.ix (.var 3) (.int 0)) (.int 0)) .nil))))))))
  (.cons (.drop [4] (.for_ (.one 5) (.r1 (.cons (.int 5) .nil)) (.cons (.set 6 (.call 17 (.cons (.var 1) (.cons (.var 3) (.cons (.var 4) .nil)))))
  (.cons (.ifs (.or (.not (.call 21 (.cons (.var 6) .nil))) (.not (.call 21 (.cons (.call 17 (.cons (.var 1) (.cons (.var 6) (.cons (.var 4) .nil)))) .nil)))) (.cons (.ret (.bl false))
  .nil) .nil)
  .nil))))
  .nil))))))
  (.cons (.ret (.call0 22))
  .nil)))⟩
def md_k01 : MD := ⟨[(0, F_is_number_0), (1, F_is_side_1), (2, F_is_spot_of_2), (3, F_is_item_3), (4, F_is_switch_4), (5, F_need_web_5), (6, F_is_web_6), (7, F_L_begun_7), (8, F_L_next_8), (9, F_L_order_9), (10, F_L_events_10), (11, F_L_item_11), (12, F_L_web_12), (13, F_L_is_number_13), (14, F_L_is_spot_14), (15, F_L_is_switch_15), (16, F_L_put_16), (17, F_L_spoilt_17), (18, F_L_item_wrong_18), (19, F_L_wrong_19), (20, F_L_told_20), (21, F_L_right_21), (22, F_L_by_hand_22), (23, F_law_23)],
  [(0, "MOST_ENTRANTS", .int 16), (1, "MOST_MATCHES", .int 40), (2, "MOST_SWITCHES", .int 8), (3, "MATCH", .str "match"), (4, "PLACE", .str "place"), (5, "SIDES", .strs ["a", "b"])],
  [(0, ⟨"WebError", none, ""⟩), (1, ⟨"BadWeb", (some "place"), "WebError"⟩), (2, ⟨"BadText", (some "place"), "WebError"⟩), (3, ⟨"BadRow", (some "place"), "WebError"⟩)],
  [(0, "WebError", [(0, true), (1, true), (2, true), (3, true)]), (1, "BadWeb", [(0, false), (1, true), (2, false), (3, false)]), (2, "BadText", [(0, false), (1, false), (2, true), (3, false)]), (3, "BadRow", [(0, false), (1, false), (2, false), (3, true)]), (4, "ValueError", [(0, true), (1, true), (2, true), (3, true)]), (5, "KeyError", [(0, false), (1, false), (2, false), (3, false)]), (6, "LookupError", [(0, false), (1, false), (2, false), (3, false)]), (7, "OverflowError", [(0, false), (1, false), (2, false), (3, false)])]⟩
end MW
end
section
set_option Elab.async false
set_option autoImplicit false
set_option maxRecDepth 100000
/-! PL3: numbers, sides, spots, items, webs, as need_web sees them. -/
namespace MW
open PySem L2
def isNum (x : D) (a b : Int) : Bool := match x with
  | .int i => decide (a ≤ i) && decide (i ≤ b)
  | _ => false
def isSide (x : D) : Bool := match x with
  | .str s => decide (s = "a") || decide (s = "b")
  | _ => false
def isSpot (many size : Int) (x : D) : Bool := match x with
  | .tup [.str t, n] => decide (t = "place") && isNum n 0 (many - 1)
  | .tup [.str t, n, s] => decide (t = "match") && (isNum n 0 (size - 1) && isSide s)
  | _ => false
section
variable (B : Tb)
theorem go_is_number (x : D) (a b : Int) (hx : x.rd = true) : F_is_number_0.go B [x, .int a, .int b] = M.pure (.bl (isNum x a b)) := by
  cases x <;> first | (simp [D.rd] at hx; done) | skip
  all_goals simp [FnD.go, F_is_number_0, defF, endF, startD, D.isTy, isNum]
theorem go_is_side (h5 : B.gl 5 = .tup [.str "a", .str "b"]) (x : D) (hx : x.rd = true) : F_is_side_1.go B [x] = M.pure (.bl (isSide x)) := by
  cases x <;> first | (simp [D.rd] at hx; done) | skip
  all_goals simp [FnD.go, F_is_side_1, defF, endF, startD, D.isTy, isSide, h5]

/-- what the first defs say -/
structure Lib1 : Prop where
  g3 : B.gl 3 = .str "match"
  g4 : B.gl 4 = .str "place"
  g5 : B.gl 5 = .tup [.str "a", .str "b"]
  num : ∀ (x : D) (a b : Int), x.rd = true → B.fn 0 [x, .int a, .int b] = M.pure (.bl (isNum x a b))
  side : ∀ x : D, x.rd = true → B.fn 1 [x] = M.pure (.bl (isSide x))
variable {B}
theorem rd_tup {l : List D} (h : (D.tup l).rd = true) : D.rds l = true := by rw [D.rd] at h; exact h
theorem rds_cons {d : D} {l : List D} (h : D.rds (d :: l) = true) : d.rd = true ∧ D.rds l = true := by
  rw [D.rds] at h
  simpa using h
theorem go_is_spot_of (L : Lib1 B) (many size : Int) (x : D) (hx : x.rd = true) : F_is_spot_of_2.go B [.int many, .int size, x] = M.pure (.bl (isSpot many size x)) := by
  cases x with
  | tup l =>
    match l, rd_tup hx with
    | [], _ => simp [FnD.go, F_is_spot_of_2, defF, endF, startD, D.isTy, isSpot]
    | [t], _ => simp [FnD.go, F_is_spot_of_2, defF, endF, startD, D.isTy, isSpot]
    | [t, n], h =>
      obtain ⟨h1, h⟩ := rds_cons h
      obtain ⟨h2, h⟩ := rds_cons h
      cases t <;> first | (simp [D.rd] at h1; done) | skip
      all_goals simp [FnD.go, F_is_spot_of_2, defF, endF, startD, D.isTy, isSpot, L.g3, L.g4, L.num _ _ _ h2]
    | [t, n, s], h =>
      obtain ⟨h1, h⟩ := rds_cons h
      obtain ⟨h2, h⟩ := rds_cons h
      obtain ⟨h3, h⟩ := rds_cons h
      cases t <;> first | (simp [D.rd] at h1; done) | skip
      all_goals simp [FnD.go, F_is_spot_of_2, defF, endF, startD, D.isTy, isSpot, L.g3, L.g4, L.num _ _ _ h2, L.side _ h3]
    | t :: _ :: _ :: _ :: l, _ => 
      have e1 : ¬ ((l.length : Int) + 1 + 1 + 1 + 1 = 2) := by omega
      have e2 : ¬ ((l.length : Int) + 1 + 1 + 1 + 1 = 3) := by omega
      simp [FnD.go, F_is_spot_of_2, defF, endF, startD, D.isTy, isSpot, e1, e2]
  | _ => first | (simp [D.rd] at hx; done) | simp [FnD.go, F_is_spot_of_2, defF, endF, startD, D.isTy, isSpot]

/-- whether a spot stands behind a match -/
def isLater (k : Int) (x : D) : Bool := match x with
  | .tup (.str t :: .int n :: _) => decide (t = "place") || decide (k < n)
  | _ => false
def isItem (many size k : Int) (x : D) : Bool := match x with
  | .tup l => decide (l.length = 4) && (l.all (isSpot many size) && l.all (isLater k))
  | _ => false
theorem rds_mem : ∀ {l : List D}, D.rds l = true → ∀ d ∈ l, d.rd = true
  | _ :: _, h, d, hd => by
    obtain ⟨h1, h2⟩ := rds_cons h
    rcases List.mem_cons.mp hd with rfl | hd
    · exact h1
    · exact rds_mem h2 d hd
/-- a spot's parts -/
theorem isSpot_cases {many size : Int} {x : D} (h : isSpot many size x = true) : (∃ n, x = .tup [.str "place", .int n] ∧ 0 ≤ n ∧ n ≤ many - 1) ∨ ∃ n s, x = .tup [.str "match", .int n, .str s] ∧ 0 ≤ n ∧ n ≤ size - 1 ∧ (s = "a" ∨ s = "b") := by
  unfold isSpot at h
  split at h
  · rename_i t n
    cases n <;> simp [isNum] at h
    exact .inl ⟨_, by rw [h.1], h.2⟩
  · rename_i t n s
    cases n <;> simp [isNum] at h
    cases s <;> simp [isSide] at h
    exact .inr ⟨_, _, by rw [h.1], h.2.1.1, h.2.1.2, h.2.2⟩
  · cases h
structure Lib2 (B : Tb) : Prop extends Lib1 B where
  spot : ∀ (many size : Int) (x : D), x.rd = true → B.fn 2 [.int many, .int size, x] = M.pure (.bl (isSpot many size x))
theorem go_is_item (L : Lib2 B) (many size k : Int) (x : D) (hx : x.rd = true) : F_is_item_3.go B [.int many, .int size, .int k, x] = M.pure (.bl (isItem many size k x)) := by
  cases x with
  | tup l =>
    have hr := rds_mem (rd_tup hx)
    simp [FnD.go, F_is_item_3, defF, endF, startD, D.isTy, isItem, L.g4]
    split
    · rename_i h4
      have h4' : l.length = 4 := by omega
      rw [compL_map fun x => .bl (isSpot many size x)]
      · simp only [bind_pure, bAll_map, opt_some, truth_bl]
        cases hs : l.all (isSpot many size) with
        | false => simp
        | true =>
          rw [compL_map fun x => .bl (isLater k x)]
          · simp [h4']
          · intro d hd
            have := List.all_eq_true.mp hs d hd
            rcases isSpot_cases this with ⟨n, rfl, _⟩ | ⟨n, s, rfl, _⟩
            · simp [isLater, L.g4]
            · by_cases hk : k < n <;> simp [isLater, hk, L.g4]
          · omega
      · intro d hd
        simp [L.spot many size d (hr d hd)]
      · omega
    · rename_i h4
      have h4' : ¬ l.length = 4 := by omega
      simp [h4']
  | _ => first | (simp [D.rd] at hx; done) | simp [FnD.go, F_is_item_3, defF, endF, startD, D.isTy, isItem]
end
end MW
end
section
set_option Elab.async false
set_option autoImplicit false
set_option maxRecDepth 100000
/-! PL4: spots, by type; their order. -/
namespace MW
open PySem L2 PySem.W
inductive Spo where
  | m (k : Nat) (b : Bool) | p (n : Nat)
  deriving DecidableEq
def sd (b : Bool) : Str := if b then "b" else "a"
def Spo.d : Spo → D
  | .m k b => .tup [.str "match", .int k, .str (sd b)]
  | .p n => .tup [.str "place", .int n]
def Spo.fits (many size : Int) : Spo → Prop
  | .m k _ => (k : Int) < size
  | .p n => (n : Int) < many
@[simp] theorem sd_true : sd true = "b" := rfl
@[simp] theorem sd_false : sd false = "a" := rfl
theorem sd_inj {a b : Bool} (h : sd a = sd b) : a = b := by
  cases a <;> cases b <;> first | rfl | (simp [sd] at h)
@[simp] theorem sd_eq {a b : Bool} : sd a = sd b ↔ a = b := ⟨sd_inj, fun h => by rw [h]⟩
theorem Spo.d_inj {s t : Spo} (h : s.d = t.d) : s = t := by
  cases s <;> cases t <;> simp [Spo.d] at h ⊢
  · exact ⟨by omega, h.2⟩
  · omega
@[simp] theorem Spo.d_eq {s t : Spo} : s.d = t.d ↔ s = t := ⟨Spo.d_inj, fun h => by rw [h]⟩
@[simp] theorem Spo.rd (s : Spo) : s.d.rd = true := by cases s <;> simp [Spo.d, D.rd, D.rds]
@[simp] theorem Spo.plain (s : Spo) : s.d.plain = true := by cases s <;> simp [Spo.d]
theorem isSpot_iff {many size : Int} {x : D} : isSpot many size x = true ↔ ∃ s : Spo, x = s.d ∧ s.fits many size := by
  constructor
  · intro h
    rcases isSpot_cases h with ⟨n, rfl, h0, h1⟩ | ⟨n, s, rfl, h0, h1, h2⟩
    · exact ⟨.p n.toNat, by simp [Spo.d]; omega, by simp [Spo.fits]; omega⟩
    · rcases h2 with rfl | rfl
      · exact ⟨.m n.toNat false, by simp [Spo.d]; omega, by simp [Spo.fits]; omega⟩
      · exact ⟨.m n.toNat true, by simp [Spo.d]; omega, by simp [Spo.fits]; omega⟩
  · rintro ⟨s, rfl, h⟩
    cases s with
    | m k b =>
      simp only [Spo.fits] at h
      cases b <;> simp [Spo.d, isSpot, isNum, isSide] <;> omega
    | p n =>
      simp only [Spo.fits] at h
      simp [Spo.d, isSpot, isNum]
      omega
theorem Spo.dep (s : Spo) : s.d.toPy.depth = 1 := by cases s <;> simp [Spo.d, PyData.depth, PyData.depthAll]
theorem Spo.eqv (s t : Spo) : PyData.eqv s.d.toPy t.d.toPy = decide (s = t) := by
  cases s <;> cases t <;> simp [Spo.d, PyData.eqv, PyData.eqvAll]
  · rename_i k b k' b'
    by_cases h1 : k = k' <;> by_cases h2 : b = b' <;> simp [h1, h2]
    omega
  · rename_i k k'
    by_cases h1 : k = k' <;> simp [h1]
    omega
theorem Spo.alike (s t : Spo) : PySem.W.alike s.d.toPy t.d.toPy = true := by
  cases s <;> cases t <;> simp [Spo.d, PySem.W.alike, PySem.W.alikeAll]
/-- an order of data by their signs -/
def dLe (a b : D) : Bool := !dataLt b.toPy a.toPy
theorem lt_asymm {a b : PyData} (h : dataLt a b = true) : dataLt b a = false := by
  cases q : dataLt b a with
  | false => rfl
  | true =>
    have := PyProof.Rows.lex_trans (O := PyProof.Rows.itemOrd) _ _ _ h q
    rw [PyProof.Rows.lex_irrefl] at this
    cases this
theorem dLe_total (a b : D) : (dLe a b || dLe b a) = true := by
  unfold dLe
  cases h : dataLt b.toPy a.toPy with
  | false => rfl
  | true => rw [lt_asymm h]; rfl
theorem dLe_trans {a b c : D} (h1 : dLe a b = true) (h2 : dLe b c = true) : dLe a c = true := by
  unfold dLe at *
  rw [Bool.not_eq_true'] at *
  cases q : dataLt c.toPy a.toPy with
  | false => rfl
  | true =>
    rcases PyProof.Rows.lex_negTrans (O := PyProof.Rows.itemOrd) _ (keyToks b.toPy) _ q with h | h
    · exact absurd h2 (by unfold dataLt; rw [h]; simp)
    · exact absurd h1 (by unfold dataLt; rw [h]; simp)
theorem dLe_toks {a b : D} (h1 : dLe a b = true) (h2 : dLe b a = true) : keyToks a.toPy = keyToks b.toPy := by
  unfold dLe at *
  rw [Bool.not_eq_true'] at *
  exact PyProof.Rows.lex_total (O := PyProof.Rows.itemOrd) _ _ h2 h1
theorem dataLe_dLe : (dataLe false D.toPy : D → D → Bool) = dLe := by
  rw [PySem.W.dataLe_eq]; rfl
theorem str_eqN {x y : Str} : x.cps.toList = y.cps.toList ↔ x = y := ⟨PySem.W.str_of_cps, fun h => by rw [h]⟩
theorem Spo.tok_inj {s t : Spo} (h : keyToks s.d.toPy = keyToks t.d.toPy) : s = t := by
  cases s <;> cases t <;> simp [Spo.d, keyToks, keyToksAll] at h ⊢
  · rename_i k b k' b'
    refine ⟨by omega, sd_inj (PySem.W.str_of_cps (by rw [h.2]))⟩
  all_goals omega
theorem Spo.le_antisymm {s t : Spo} (h1 : dLe s.d t.d = true) (h2 : dLe t.d s.d = true) : s = t := Spo.tok_inj (dLe_toks h1 h2)
theorem Spo.sortOk {l : List Spo} : D.sortOk (l.map Spo.d) = true := by
  unfold D.sortOk
  have h1 : D.plains (l.map Spo.d) = true := by
    induction l with
    | nil => rfl
    | cons s l ih => simp [ih]
  have h2 : alikes (D.toPys (l.map Spo.d)) = true := by
    unfold alikes
    rw [toPys_map, List.map_map]
    simp [Spo.alike]
  have h3 : sortables (D.toPys (l.map Spo.d)) = true := by
    unfold sortables
    rw [toPys_map, List.map_map, List.all_map, Bool.or_eq_true]
    refine .inl (List.all_eq_true.mpr fun s _ => ?_)
    cases s <;> simp [Spo.d, isTupD]
  have h4 : ((l.map Spo.d).all fun d => decide (d.toPy.depth ≤ 60)) = true := by
    rw [List.all_map]
    refine List.all_eq_true.mpr fun s _ => ?_
    simp [Spo.dep]
  rw [h1, h2, h3, h4]; rfl
theorem sort2 {α : Type} (le : α → α → Bool) (a b : α) : [a, b].mergeSort le = if le a b then [a, b] else [b, a] := by
  simp [List.mergeSort, List.merge]
end MW
end
section
set_option Elab.async false
set_option autoImplicit false
set_option maxRecDepth 100000
/-! PL5: is_switch, need_web, is_web. -/
namespace MW
open PySem L2 PySem.W
def toSpo : D → Option Spo
  | .tup [.str t, .int n] => if t = "place" ∧ 0 ≤ n then some (.p n.toNat) else none
  | .tup [.str t, .int n, .str s] => if t = "match" ∧ 0 ≤ n ∧ (s = "a" ∨ s = "b") then some (.m n.toNat (decide (s = "b"))) else none
  | _ => none
@[simp] theorem toSpo_d (s : Spo) : toSpo s.d = some s := by
  cases s with
  | m k b => cases b <;> simp [Spo.d, toSpo]
  | p n => simp [Spo.d, toSpo]
/-- whether the results of a match fill other spots -/
def swtB (p q r s : Spo) : Bool := !((decide (p = r) && decide (q = s)) || (decide (p = s) && decide (q = r)))
def isSw : D → Bool
  | .tup [p, q, r, s] => match toSpo p, toSpo q, toSpo r, toSpo s with
    | some p, some q, some r, some s => swtB p q r s
    | _, _, _, _ => false
  | _ => false
@[simp] theorem isSw_d (p q r s : Spo) : isSw (.tup [p.d, q.d, r.d, s.d]) = swtB p q r s := by simp [isSw]
theorem sort_two (p q : Spo) : D.bSorted [.lst [p.d, q.d]] = some (.lst (if dLe p.d q.d then [p.d, q.d] else [q.d, p.d])) ∧ D.bSorted [.tup [p.d, q.d]] = some (.lst (if dLe p.d q.d then [p.d, q.d] else [q.d, p.d])) := by
  have h : D.sortOk [p.d, q.d] = true := Spo.sortOk (l := [p, q])
  have e : sortD [p.d, q.d] = if dLe p.d q.d then [p.d, q.d] else [q.d, p.d] := by
    unfold sortD
    rw [dataLe_dLe, sort2]
  constructor
  · show (if D.sortOk [p.d, q.d] then some (D.lst (sortD [p.d, q.d])) else none) = _
    rw [h, e]; rfl
  · show (if D.sortOk [p.d, q.d] then some (D.lst (sortD [p.d, q.d])) else none) = _
    rw [h, e]; rfl
theorem ne_two (p q r s : Spo) : D.cop .ne (.lst [p.d, q.d]) (.lst [r.d, s.d]) = some (!(decide (p = r) && decide (q = s))) := by
  simp [D.cop, D.eqv, PyData.eqv, PyData.eqvAll, PyData.depth, PyData.depthAll, Spo.dep, Spo.eqv]
theorem go_is_switch (B : Tb) (p q r s : Spo) : F_is_switch_4.go B [.tup [p.d, q.d, r.d, s.d]] = M.pure (.bl (swtB p q r s)) := by
  have tot := dLe_total
  simp [FnD.go, F_is_switch_4, defF, endF, startD, (sort_two p q).2, (sort_two r s).2]
  have fin : ∀ a b c d : Spo, (M.bind (M.opt (D.cop .ne (.lst [a.d, b.d]) (.lst [c.d, d.d]))) fun z => M.pure (D.bl z)) = M.pure (.bl (!(decide (a = c) && decide (b = d)))) := fun a b c d => by
    rw [ne_two]; rfl
  by_cases h1 : dLe p.d q.d = true <;> by_cases h2 : dLe r.d s.d = true <;> simp only [h1, h2, if_true, if_false, fin, Bool.false_eq_true]
  all_goals (congr 2; unfold swtB; congr 1)
  all_goals by_cases a1 : p = r <;> by_cases a2 : q = s <;> by_cases a3 : p = s <;> by_cases a4 : q = r <;> simp [a1, a2, a3, a4]
  all_goals first
    | (subst a1 a2; exact absurd h1 h2)
    | (subst a1 a2; exact absurd h2 h1)
    | (subst a3 a4; have e := Spo.le_antisymm h1 h2; exact ⟨e, e.symm⟩)
    | (subst a3 a4; have e := tot p.d q.d; simp [h1, h2] at e)
/-! ### need_web -/
/-- the first spot that is none, from the k-th on -/
def scanS (many size : Int) : Nat → List D → Option D
  | _, [] => none
  | k, d :: l => if isSpot many size d then scanS many size (k + 1) l else some (.tup [.str "start", .int k])
/-- the first item that is none, or one switch too many -/
def scanM (many size : Int) : Nat → Int → List D → Option D
  | _, _, [] => none
  | k, f, d :: l => if isItem many size k d then (if 8 < f + (if isSw d then 1 else 0) then some (.tup [.str "match", .int k]) else scanM many size (k + 1) (f + (if isSw d then 1 else 0)) l) else some (.tup [.str "match", .int k])
/-- where a thing is no web -/
def webWrong : D → Option D
  | .tup [.tup starts, .tup items] => if 1 ≤ starts.length ∧ starts.length ≤ 16 ∧ items.length ≤ 40 then (match scanS starts.length items.length 0 starts with
    | some p => some p
    | none => scanM starts.length items.length 0 0 items) else some (.tup [])
  | _ => some (.tup [])
/-- refused, or told -/
def refuse (o : Option D) (d : D) : M D := match o with
  | none => M.pure d
  | some p => M.raise 1 p
structure Lib3 (B : Tb) : Prop extends Lib2 B where
  g0 : B.gl 0 = .int 16
  g1 : B.gl 1 = .int 40
  g2 : B.gl 2 = .int 8
  item : ∀ (many size k : Int) (x : D), x.rd = true → B.fn 3 [.int many, .int size, .int k, x] = M.pure (.bl (isItem many size k x))
  sw : ∀ p q r s : Spo, B.fn 4 [.tup [p.d, q.d, r.d, s.d]] = M.pure (.bl (swtB p q r s))
theorem isItem_spos {many size k : Int} {x : D} (h : isItem many size k x = true) : ∃ p q r s : Spo, x = .tup [p.d, q.d, r.d, s.d] ∧ ∀ t ∈ [p, q, r, s], t.fits many size ∧ isLater k t.d = true := by
  unfold isItem at h
  split at h
  · rename_i l
    simp only [Bool.and_eq_true, decide_eq_true_eq] at h
    obtain ⟨h4, h1, h2⟩ := h
    match l, h4 with
    | [a, b, c, d], _ =>
      simp only [List.all_cons, List.all_nil, Bool.and_true, Bool.and_eq_true] at h1 h2
      obtain ⟨p, rfl, hp⟩ := isSpot_iff.mp h1.1
      obtain ⟨q, rfl, hq⟩ := isSpot_iff.mp h1.2.1
      obtain ⟨r, rfl, hr⟩ := isSpot_iff.mp h1.2.2.1
      obtain ⟨s, rfl, hs⟩ := isSpot_iff.mp h1.2.2.2
      refine ⟨p, q, r, s, rfl, fun t ht => ?_⟩
      simp at ht
      rcases ht with rfl | rfl | rfl | rfl
      · exact ⟨hp, h2.1⟩
      · exact ⟨hq, h2.2.1⟩
      · exact ⟨hr, h2.2.2.1⟩
      · exact ⟨hs, h2.2.2.2⟩
  · cases h
section
variable {B : Tb}
theorem Lib3.swD (L : Lib3 B) {many size k : Int} {x : D} (h : isItem many size k x = true) : B.fn 4 [x] = M.pure (.bl (isSw x)) := by
  obtain ⟨p, q, r, s, rfl, _⟩ := isItem_spos h
  rw [L.sw, isSw_d]
@[simp] theorem pairs_nil (k : Nat) : pairsD k [] = [] := rfl
@[simp] theorem pairs_cons (k : Nat) (d : D) (l : List D) : pairsD k (d :: l) = .tup [.int k, d] :: pairsD (k + 1) l := rfl
def step1 (starts items : List D) (k : Nat) (d : D) (_ : Option D × Option D) : M ((Option D × Option D) ⊕ D) := if isSpot starts.length items.length d then M.pure (.inl (some (.int k), some d)) else M.raise 1 (.tup [.str "start", .int k])
def outP {S : Type} (o : Option D) (s : S) : M (S ⊕ D) := match o with
  | some p => M.raise 1 p
  | none => M.pure (.inl s)
@[simp] theorem outP_some {S : Type} (p : D) (s : S) : outP (some p) s = M.raise 1 p := rfl
@[simp] theorem outP_none {S : Type} (s : S) : outP none s = M.pure (.inl s) := rfl
theorem run1 (starts items : List D) : ∀ (l : List D) (k : Nat) (s : Option D × Option D), ∃ s', runP (step1 starts items) k l s = outP (scanS starts.length items.length k l) s'
  | [], k, s => ⟨s, rfl⟩
  | d :: l, k, s => by
    rw [scanS, runP]
    have e : step1 starts items k d s = if isSpot starts.length items.length d then M.pure (.inl (some (.int k), some d)) else M.raise 1 (.tup [.str "start", .int k]) := rfl
    rw [e]
    cases isSpot starts.length items.length d with
    | true =>
      obtain ⟨s', h⟩ := run1 starts items l (k + 1) (some (.int k), some d)
      exact ⟨s', by simpa using h⟩
    | false => exact ⟨s, by simp⟩
def step2 (starts items : List D) (k : Nat) (d : D) (s : Option D × Option D × Int) : M ((Option D × Option D × Int) ⊕ D) := if isItem starts.length items.length k d then
  (if 8 < s.2.2 + (if isSw d then 1 else 0) then M.raise 1 (.tup [.str "match", .int k]) else M.pure (.inl (some (.int k), some d, s.2.2 + (if isSw d then 1 else 0)))) else M.raise 1 (.tup [.str "match", .int k])
theorem run2 (starts items : List D) : ∀ (l : List D) (k : Nat) (s : Option D × Option D × Int), ∃ s', runP (step2 starts items) k l s = outP (scanM starts.length items.length k s.2.2 l) s'
  | [], k, s => ⟨s, rfl⟩
  | d :: l, k, s => by
    rw [scanM, runP]
    have e : step2 starts items k d s = if isItem starts.length items.length k d then (if 8 < s.2.2 + (if isSw d then 1 else 0) then M.raise 1 (.tup [.str "match", .int k]) else M.pure (.inl (some (.int k), some d, s.2.2 + (if isSw d then 1 else 0)))) else M.raise 1 (.tup [.str "match", .int k]) := rfl
    rw [e]
    cases isItem starts.length items.length k d with
    | true =>
      by_cases c : 8 < s.2.2 + (if isSw d then 1 else 0)
      · exact ⟨s, by simp [c]⟩
      · obtain ⟨s', h⟩ := run2 starts items l (k + 1) (some (.int k), some d, s.2.2 + (if isSw d then 1 else 0))
        exact ⟨s', by simpa [c] using h⟩
    | false => exact ⟨s, by simp⟩
theorem go_need_web (L : Lib3 B) (x : D) (hx : x.rd = true) : F_need_web_5.go B [x] = refuse (webWrong x) x := by
  cases x with
  | tup l =>
    match l, rd_tup hx with
    | [], _ => simp [FnD.go, F_need_web_5, defF, endF, startD, D.isTy, webWrong, refuse]
    | [a], _ => simp [FnD.go, F_need_web_5, defF, endF, startD, D.isTy, webWrong, refuse]
    | a :: b :: c :: l, _ =>
      have e : ¬ ((l.length : Int) + 1 + 1 + 1 = 2) := by omega
      simp [FnD.go, F_need_web_5, defF, endF, startD, D.isTy, webWrong, refuse, e]
    | [a, b], h =>
      obtain ⟨h1, h⟩ := rds_cons h
      obtain ⟨h2, h⟩ := rds_cons h
      cases a with
      | tup starts =>
        cases b with
        | tup items =>
          simp [FnD.go, F_need_web_5, defF, endF, startD, D.isTy, webWrong, refuse, L.g0, L.g1, L.g2]
          by_cases c1 : 1 ≤ starts.length ∧ starts.length ≤ 16 ∧ items.length ≤ 40
          · rw [if_pos (by omega), if_neg (by omega), if_neg (by omega), if_pos c1]
            rw [forL_runP (fun s : Option D × Option D => [some (D.tup [D.tup starts, D.tup items]), some (D.tup starts), some (D.tup items), s.1, s.2, none, none]) (step1 starts items) (none, none) rfl]
            · obtain ⟨s1, e1⟩ := run1 starts items starts 0 (none, none)
              rw [e1]
              cases scanS starts.length items.length 0 starts with
              | some p => simp
              | none =>
                simp
                rw [forL_runP (fun s : Option D × Option D × Int => [some (D.tup [D.tup starts, D.tup items]), some (D.tup starts), some (D.tup items), s.1, s1.2, some (.int s.2.2), s.2.1]) (step2 starts items) (s1.1, none, 0) rfl]
                · obtain ⟨s2, e2⟩ := run2 starts items items 0 (s1.1, none, 0)
                  rw [e2]
                  cases scanM starts.length items.length 0 0 items with
                  | some p => simp
                  | none => simp
                · intro d hd k s
                  simp [L.item _ _ _ d (rds_mem (rd_tup h2) d hd), step2]
                  cases hi : isItem (↑starts.length) (↑items.length) k d with
                  | false => simp
                  | true => 
                    simp [L.swD hi, L.g2]
            · intro d hd k s
              simp [L.spot _ _ d (rds_mem (rd_tup h1) d hd), step1]
              cases isSpot (↑starts.length) (↑items.length) d <;> simp
          · rw [if_neg c1]
            split
            · split
              · rfl
              · split
                · rfl
                · omega
            · rfl
        | _ => first | (simp [D.rd] at h2; done) | simp [FnD.go, F_need_web_5, defF, endF, startD, D.isTy, webWrong, refuse]
      | _ => first | (simp [D.rd] at h1; done) | simp [FnD.go, F_need_web_5, defF, endF, startD, D.isTy, webWrong, refuse]
  | _ => first | (simp [D.rd] at hx; done) | simp [FnD.go, F_need_web_5, defF, endF, startD, D.isTy, webWrong, refuse]
end
end MW
end
section
set_option Elab.async false
set_option autoImplicit false
set_option maxRecDepth 100000
/-! PL6: the draws. -/
namespace MW
open PySem L2 PySem.W
/-- whatever the draw holds, the run gives something with Q, and a draw -/
def Gives {α : Type} (m : M α) (Q : α → Prop) : Prop := ∀ d : Draw, ∃ (a : α) (d' : Draw), m ⟨some d⟩ = .ok a ⟨some d'⟩ ∧ Q a
section
variable {α β : Type}
theorem Gives.pure {a : α} {Q : α → Prop} (h : Q a) : Gives (M.pure a) Q := fun d => ⟨a, d, rfl, h⟩
theorem Gives.bind {m : M α} {f : α → M β} {P : α → Prop} {Q : β → Prop} (h : Gives m P) (k : ∀ a, P a → Gives (f a) Q) : Gives (M.bind m f) Q := fun d => by
  obtain ⟨a, d1, e1, p⟩ := h d
  obtain ⟨b, d2, e2, q⟩ := k a p d1
  exact ⟨b, d2, by unfold M.bind; rw [e1]; exact e2, q⟩
theorem Gives.imp {m : M α} {P Q : α → Prop} (h : Gives m P) (k : ∀ a, P a → Q a) : Gives m Q := fun d => by
  obtain ⟨a, d1, e1, p⟩ := h d
  exact ⟨a, d1, e1, k a p⟩
theorem bind_at {m : M α} {f : α → M β} {w w1 : Wd} {a : α} (h : m w = .ok a w1) : M.bind m f w = f a w1 := by
  unfold M.bind
  rw [h]
end
section
variable {α : Type} {f : D → M α} {d : Draw}
theorem at_turn : M.bind (drawGet "turn" (.cell 1)) f ⟨some d⟩ = f (.int d.turn) ⟨some d⟩ := (rfl)
theorem at_mixed : M.bind (drawGet "mixed" (.cell 1)) f ⟨some d⟩ = f (.int d.mixed) ⟨some d⟩ := (rfl)
theorem at_great : M.bind (drawGet "great" (.cell 1)) f ⟨some d⟩ = f (.cell 2) ⟨some d⟩ := (rfl)
theorem at_len : M.bind (greatLen (.cell 2)) f ⟨some d⟩ = f (.int d.great.length) ⟨some d⟩ := (rfl)
theorem at_ne {f : Bool → M α} : M.bind (greatNe (.cell 2)) f ⟨some d⟩ = f (!d.great.isEmpty) ⟨some d⟩ := (rfl)
theorem at_ix {i n : Int} (h : atI d.great i = some n) : M.bind (greatIx (.cell 2) (.int i)) f ⟨some d⟩ = f (.int n) ⟨some d⟩ := by
  refine bind_at ?_
  unfold greatIx
  simp [h]
theorem at_pturn {n : Int} {ρ : En} {f : En → M α} (h : ρ[0]?.join = some (.cell 1)) : M.bind (M.quiet (fPutD 0 "turn" (.int n) ρ)) f ⟨some d⟩ = f ρ ⟨some { d with turn := n }⟩ := by
  refine bind_at ?_
  unfold M.quiet fPutD
  simp [h, drawSet]
theorem at_pmixed {n : Int} {ρ : En} {f : En → M α} (h : ρ[0]?.join = some (.cell 1)) : M.bind (M.quiet (fPutD 0 "mixed" (.int n) ρ)) f ⟨some d⟩ = f ρ ⟨some { d with mixed := n }⟩ := by
  refine bind_at ?_
  unfold M.quiet fPutD
  simp [h, drawSet]
end
theorem mul_r {i j : Int} (h : -(2 ^ 64) < j ∧ j < 2 ^ 64) : D.bop .mul (.int i) (.int j) = some (.int (i * j)) := by
  have e : D.mulOk i j = true := by
    unfold D.mulOk
    rw [Bool.or_eq_true]
    exact .inr (by simpa using h)
  simp [D.bop, D.mul, e]
theorem mul_l {i j : Int} (h : -(2 ^ 64) < i ∧ i < 2 ^ 64) : D.bop .mul (.int i) (.int j) = some (.int (i * j)) := by
  have e : D.mulOk i j = true := by
    unfold D.mulOk
    rw [Bool.or_eq_true]
    exact .inl (by simpa using h)
  simp [D.bop, D.mul, e]
theorem mod_pos {i j : Int} (h : 0 < j) : D.bop .mod (.int i) (.int j) = some (.int (i % j)) := by
  simp [D.bop, D.mod, h]
theorem fdiv_pos {i j : Int} (h : 0 < j) (h' : j < 1073741824) : D.bop .fdiv (.int i) (.int j) = some (.int (i / j)) := by
  simp [D.bop, D.fdiv, h, h']
/-- some number below n, whatever the draw then is -/
def Some1 (n : Nat) (r : Rs D) : Prop := ∃ a d', r = .ok a ⟨some d'⟩ ∧ ∃ k : Nat, a = D.int k ∧ k < n
theorem some_mod {n : Nat} (hn : 0 < n) (i : Int) (d : Draw) : Some1 n (M.opt (D.bop .mod (.int i) (.int n)) ⟨some d⟩) := by
  rw [mod_pos (by omega)]
  have h1 := Int.emod_nonneg i (show (n : Int) ≠ 0 by omega)
  have h2 := Int.emod_lt_of_pos i (show (0 : Int) < n by omega)
  refine ⟨_, d, rfl, (i % n).toNat, ?_, ?_⟩
  · rw [Int.toNat_of_nonneg h1]
  · omega
theorem some_mixed {n : Nat} (hn : 0 < n) {c1 c2 c3 c4 c5 : Int} (h1 : -(2 ^ 64) < c1 ∧ c1 < 2 ^ 64) (h2 : -(2 ^ 64) < c2 ∧ c2 < 2 ^ 64) (h4 : 0 < c4) (h5 : 0 < c5 ∧ c5 < 1073741824) {x y z : Option D} (m : Draw) :
    Some1 n ((M.bind (M.opt (D.bop .mul (.int m.mixed) (.int c1))) fun a => M.bind (drawGet "turn" (.cell 1)) fun b => M.bind (M.opt (D.bop .mul (.int c2) b)) fun b => M.bind (M.opt (D.bop .add a b)) fun a => M.bind (M.opt (D.bop .add a (.int c3))) fun a => M.bind (M.opt (D.bInt [a])) fun a =>
      M.bind (M.opt (D.bInt [a])) fun b => M.bind (M.opt (D.bop .mod b (.int c4))) fun b => M.bind (M.quiet (fPutD 0 "mixed" b [some (.cell 1), some (.int n), x, y, z, some a])) fun ρ => M.bind (M.opt ρ[0]?.join) fun c => M.bind (drawGet "mixed" c) fun e => M.bind (M.opt (D.bop .fdiv e (.int c5))) fun e => M.bind (M.opt (D.bInt [e])) fun e => M.bind (M.opt ρ[1]?.join) fun f => M.opt (D.bop .mod e f)) ⟨some m⟩) := by
  rw [mul_r h1]
  simp only [opt_some, bind_pure]
  rw [at_turn, mul_l h2]
  simp only [opt_some, bind_pure, add_int, bInt_int]
  rw [mod_pos h4]
  simp only [opt_some, bind_pure]
  rw [at_pmixed rfl]
  simp only [bind_pure, opt_some, List.getElem?_cons_zero, List.getElem?_cons_succ, Option.join_some]
  rw [at_mixed, fdiv_pos h5.1 h5.2]
  simp only [bind_pure, opt_some, bInt_int]
  exact some_mod hn _ _
theorem at_pg {α : Type} {d : Draw} {n i : Int} {j : Nat} {ρ : En} {f : En → M α} {fk : En → M D} (h : ρ[2]?.join = some (.cell 2)) (hk : fk ρ = M.pure (.int i)) (hj : ixN d.great.length i = some j) : M.bind (M.quiet (fPutG 2 fk (.int n) ρ)) f ⟨some d⟩ = f ρ ⟨some { d with great := d.great.set j n }⟩ := by
  refine bind_at ?_
  unfold M.quiet fPutG
  simp [h, hk, hj, M.bind, M.pure]
theorem go_next (B : Tb) (n : Nat) (h0 : 0 < n) (h1 : n ≤ 1000000) : Gives (F_L_next_8.go B [.cell 1, .int n]) fun x => ∃ k : Nat, x = .int k ∧ k < n := by
  intro d
  show Some1 n _
  simp only [FnD.go, F_L_next_8, defF, endF, startD]
  simp
  have hl : (0 : Int) < max 1 (d.great.length : Int) := by omega
  rw [at_turn]
  simp only [add_int, opt_some, bind_pure]
  rw [at_great]
  rw [at_pturn rfl]
  simp only [bind_pure, opt_some, List.set_cons_succ, List.set_cons_zero, List.getElem?_cons_zero, List.getElem?_cons_succ, Option.join_some]
  rw [at_turn]
  simp only [bInt_int, opt_some, bind_pure]
  rw [at_len]
  simp only [bMax_int, opt_some, bind_pure, mod_pos hl]
  rw [at_ne]
  have mx : ∀ {x y z : Option D} (m : Draw), _ := @some_mixed n h0 6364136223846793 1442695040888963 11 2305843009213693951 32749 (by omega) (by omega) (by omega) (by omega)
  split
  · rename_i hne
    have he : 0 < d.great.length := by
      cases hg : d.great with
      | nil => rw [hg] at hne; simp at hne
      | cons _ _ => simp
    have e1 := Int.emod_nonneg (d.turn + 1) (show max 1 (d.great.length : Int) ≠ 0 by omega)
    have e2 := Int.emod_lt_of_pos (d.turn + 1) hl
    obtain ⟨j, hj⟩ : ∃ j : Nat, (d.turn + 1) % max 1 (d.great.length : Int) = j := ⟨_, (Int.toNat_of_nonneg e1).symm⟩
    rw [hj]
    have hjl : j < d.great.length := by omega
    obtain ⟨v, hv⟩ : ∃ v, d.great[j]? = some v := ⟨_, List.getElem?_eq_getElem hjl⟩
    have ha : atI (Draw.great { mixed := d.mixed, great := d.great, turn := d.turn + 1 }) (j : Int) = some v := (atI_nat hjl).trans hv
    rw [at_ix ha]
    simp only [gt_int, opt_some, bind_pure]
    split
    · rw [at_ix ha]
      simp only [bInt_int, opt_some, bind_pure]
      rw [mod_pos (by omega)]
      simp only [opt_some, bind_pure]
      rw [at_ix ha]
      rw [fdiv_pos (by omega) (by omega)]
      simp only [opt_some, bind_pure]
      rw [at_pg (d := { mixed := d.mixed, great := d.great, turn := d.turn + 1 }) (i := j) (j := j) (fk := MX.ev B (.var 3)) (ρ := [some (D.cell 1), some (D.int ↑n), some (D.cell 2), some (D.int ↑j), some (D.int (v % ↑n)), none]) rfl (by simp) (ixN_nat hjl)]
      have g1 := Int.emod_nonneg v (show (n : Int) ≠ 0 by omega)
      have g2 := Int.emod_lt_of_pos v (show (0 : Int) < n by omega)
      exact ⟨_, _, rfl, (v % n).toNat, by rw [Int.toNat_of_nonneg g1], by omega⟩
    · rw [at_mixed]
      exact mx _
  · rw [at_mixed]
    exact mx _
end MW
end
section
set_option Elab.async false
set_option autoImplicit false
set_option maxRecDepth 100000
/-! PL7: the draw's beginning, orders. -/
namespace MW
open PySem L2 PySem.W
theorem pow_small {i : Int} {j : Nat} (h1 : i.natAbs < 2 ^ 64) (h2 : j ≤ 1000000) : D.bop .pow (.int i) (.int j) = some (.int (i ^ j)) := by
  have e : (decide ((0 : Int) ≤ j) && decide ((j : Int) ≤ 1000000) && decide (i.natAbs < 2 ^ 64)) = true := by
    simp only [Bool.and_eq_true, decide_eq_true_eq]
    omega
  simp only [D.bop, D.pow, e, if_true, Int.toNat_natCast]
def stepB (k : Nat) (d : D) (s : Int × Option D × Option D) : M ((Int × Option D × Option D) ⊕ D) := match d with
  | .int c => M.pure (.inl ((s.1 * 998244353 + c + 104723 * k) % 2305843009213693951, some (.int k), some d))
  | _ => M.bad
theorem runB : ∀ (l : List Int) (k : Nat) (s : Int × Option D × Option D), ∃ s', runP stepB k (l.map .int) s = M.pure (.inl s')
  | [], k, s => ⟨s, rfl⟩
  | c :: l, k, s => by
    obtain ⟨s', h⟩ := runB l (k + 1) ((s.1 * 998244353 + c + 104723 * k) % 2305843009213693951, some (.int k), some (.int c))
    refine ⟨s', ?_⟩
    rw [List.map_cons, runP]
    exact h
theorem go_begun (B : Tb) (ns : List Int) (hn : ns.length ≤ 63) : ∃ d, F_L_begun_7.go B [.scr ns] ⟨none⟩ = .ok (.cell 1) ⟨some d⟩ := by
  simp only [FnD.go, F_L_begun_7, defF, endF, startD]
  simp
  rw [mul_l (by omega)]
  simp
  rw [forL_runP (fun s : Int × Option D × Option D => [some (.scr ns), some (.int s.1), s.2.1, s.2.2]) stepB (32452843 + 41 * (ns.length : Int), none, none) rfl]
  · obtain ⟨s', e⟩ := runB ns 0 (32452843 + 41 * (ns.length : Int), none, none)
    rw [e]
    simp
    rw [compL_filter (fun d => match d with | .int i => decide (10 ^ 18 ≤ i) | _ => false) id]
    · have e2 : ((ns.map D.int).filter fun d => match d with | .int i => decide (10 ^ 18 ≤ i) | _ => false) = (ns.filter fun i => decide (10 ^ 18 ≤ i)).map D.int := by
        rw [List.filter_map]; rfl
      rw [e2]
      simp
      refine ⟨⟨s'.1, ns.filter fun i => decide (10 ^ 18 ≤ i), 0⟩, ?_⟩
      unfold drawMk
      have := toInts_map (fun i : Int => i) (ns.filter fun i => decide (10 ^ 18 ≤ i))
      simp at this
      simp [this]
    · intro d hd
      obtain ⟨i, _, rfl⟩ := List.mem_map.mp hd
      have := pow_small (i := 10) (j := 18) (by decide) (by decide)
      simp at this
      simp [this]
    · simp; omega
  · intro d hd k s
    obtain ⟨c, _, rfl⟩ := List.mem_map.mp hd
    simp [stepB]
    rw [mul_r (by omega), mul_l (by omega)]
    simp [mod_pos]

theorem whL_succ {ft : En → M Bool} {fb : En → M Fl} {n : Nat} {ρ : En} : whL ft fb (n + 1) ρ = M.bind (ft ρ) fun k => if k then M.bind (fb ρ) fun r => (match r with
    | .nx ρ2 => whL ft fb n ρ2
    | .ct ρ2 => whL ft fb n ρ2
    | .bk ρ2 => M.pure (.nx ρ2)
    | .rt d => M.pure (.rt d)) else M.pure (.nx ρ) := (rfl)
/-- numbers as data -/
def nats (l : List Nat) : List D := l.map fun (k : Nat) => D.int (k : Int)
@[simp] theorem nats_nil : nats [] = [] := rfl
@[simp] theorem nats_len (l : List Nat) : (nats l).length = l.length := by simp [nats]
theorem nats_append (l m : List Nat) : nats (l ++ m) = nats l ++ nats m := by simp [nats]
theorem nats_get {l : List Nat} {i : Nat} (h : i < l.length) : atI (nats l) (i : Int) = some (.int (l[i] : Nat)) := by
  rw [atI_nat (by simpa using h)]
  simp [nats, h]
theorem nats_take (l : List Nat) (n : Nat) : (nats l).take n = nats (l.take n) := by simp [nats, List.map_take]
theorem nats_drop (l : List Nat) (n : Nat) : (nats l).drop n = nats (l.drop n) := by simp [nats, List.map_drop]
theorem nats_range (n : Nat) : rangeD 0 n = nats (List.range n) := by
  unfold rangeD nats
  simp
@[simp] theorem nats_empty (l : List Nat) : (nats l).isEmpty = l.isEmpty := by simp [nats]
theorem add_tup {l m : List D} (h : l.length + m.length ≤ 16777216) : D.bop .add (.tup l) (.tup m) = some (.tup (l ++ m)) := by
  simp [D.bop, D.add, h]
theorem add_lst {l m : List D} (h : l.length + m.length ≤ 16777216) : D.bop .add (.lst l) (.lst m) = some (.lst (l ++ m)) := by
  simp [D.bop, D.add, h]
/-- what the draws give -/
structure LibD (B : Tb) : Prop where
  next : ∀ n : Nat, 0 < n → n ≤ 1000000 → Gives (B.fn 8 [.cell 1, .int n]) fun x => ∃ k : Nat, x = .int k ∧ k < n
theorem perm_cut {l : List Nat} {i : Nat} (h : i < l.length) : (l[i] :: (l.take i ++ l.drop (i + 1))).Perm l := by
  have e : l = l.take i ++ l[i] :: l.drop (i + 1) := by
    rw [List.getElem_cons_drop, List.take_append_drop]
  have := List.perm_middle (a := l[i]) (l₁ := l.take i) (l₂ := l.drop (i + 1))
  rw [← e] at this
  exact this.symm
theorem go_order (B : Tb) (L : LibD B) (n : Nat) (hn : n ≤ 1000) : Gives (F_L_order_9.go B [.cell 1, .int n]) fun x => ∃ l : List Nat, x = .lst (nats l) ∧ l.Perm (List.range n) := by
  simp only [FnD.go, F_L_order_9, defF, endF, startD]
  simp
  have e0 : lrg [.int n] = some (.lst (nats (List.range n))) := by
    unfold lrg
    have : small62 (n : Int) = true := by unfold small62; simp; omega
    have h2 : (n : Int) ≤ 2 ^ 24 := by omega
    show (if (small62 (n : Int) && decide ((n : Int) ≤ 2 ^ 24)) = true then some (D.lst (rangeD 0 (n : Int).toNat)) else none) = _
    rw [this, decide_eq_true h2, Int.toNat_natCast, nats_range]
    rfl
  rw [e0]
  simp
  generalize ht : MX.tst B _ = tst
  generalize hb : MS.run B _ = body
  have turn : ∀ (fuel : Nat) (left found : List Nat) (x : Option D), left.length < fuel → left.length + found.length ≤ 1000 →
      Gives (whL tst body fuel [some (.cell 1), some (.int n), some (.lst (nats left)), some (.lst (nats found)), x]) fun r => ∃ (l : List Nat) (y : Option D), r = .nx [some (.cell 1), some (.int n), some (.lst []), some (.lst (nats l)), y] ∧ l.Perm (found ++ left) := by
    intro fuel
    induction fuel with
    | zero => intro left found x h; omega
    | succ fuel ih =>
      intro left found x h1 h2
      rw [whL_succ, ← ht, ← hb]
      cases left with
      | nil =>
        simp
        exact .pure ⟨found, ⟨x, rfl⟩, .refl _⟩
      | cons a left =>
        simp only [List.length_cons] at h1 h2
        simp
        rw [ht, hb]
        refine Gives.bind (by simpa using L.next (left.length + 1) (by omega) (by omega)) fun z hz => ?_
        obtain ⟨k, rfl, hk⟩ := hz
        have hk' : k < (a :: left).length := by simpa using hk
        have c1 : ((k : Int) + 1) = ((k + 1 : Nat) : Int) := by omega
        rw [ix_lst, nats_get hk']
        have hf : found.length ≤ 16777215 := by omega
        simp only [opt_some, bind_pure, asInt_int, add_int, nats_len, if_pos hf]
        rw [c1, cut_to (by simp; omega), cut_from (by simp; omega), nats_take, nats_drop, add_lst (by simp; omega), opt_some, bind_pure, ← nats_append]
        have e1 : nats found ++ [D.int (((a :: left)[k] : Nat) : Int)] = nats (found ++ [(a :: left)[k]]) := by rw [nats_append]; rfl
        rw [e1]
        have hp := perm_cut hk'
        have hlen := hp.length_eq
        simp only [List.length_cons] at hlen
        have hlen' : ((a :: left).take k ++ (a :: left).drop (k + 1)).length = left.length := by omega
        refine (ih ((a :: left).take k ++ (a :: left).drop (k + 1)) (found ++ [(a :: left)[k]]) (some (.int k)) (by omega) (by rw [hlen', List.length_append, List.length_singleton]; omega)).imp fun r hr => ?_
        obtain ⟨l, y, rfl, hl⟩ := hr
        refine ⟨l, ⟨y, rfl⟩, hl.trans ?_⟩
        rw [List.append_assoc]
        exact List.Perm.append_left found hp
  refine (turn 1000000 (List.range n) [] none (by simp; omega) (by simp; omega)).bind fun r hr => ?_
  obtain ⟨l, y, rfl, hp⟩ := hr
  simp
  exact .pure ⟨l, rfl, by simpa using hp⟩
end MW
end
section
set_option Elab.async false
set_option autoImplicit false
set_option maxRecDepth 100000
/-! PL8: drawn matches of two lines. -/
namespace MW
open PySem L2 PySem.W
/-- a loop in which draws are made -/
theorem forL_gives {S : Type} (E : S → En) (I : S → Prop) (O : D → Prop) {T : Tg} {body : En → M Fl} : ∀ {ds : List D} {ρ : En} (s : S), ρ = E s → I s →
    (∀ d ∈ ds, ∀ s, I s → Gives (M.bind (M.opt (T.put d (E s))) body) fun r => (∃ s', r = .nx (E s') ∧ I s') ∨ ∃ d, r = .rt d ∧ O d) →
    Gives (forL T body ds ρ) fun r => (∃ s', r = .nx (E s') ∧ I s') ∨ ∃ d, r = .rt d ∧ O d
  | [], _, s, rfl, hi, _ => .pure (.inl ⟨s, rfl, hi⟩)
  | d :: ds, _, s, rfl, hi, h => by
    rw [forL_cons, ← bind_assoc]
    refine (h d List.mem_cons_self s hi).bind fun r hr => ?_
    rcases hr with ⟨s', rfl, hs⟩ | ⟨d, rfl, hd⟩
    · exact forL_gives E I O s' rfl hs fun x hx => h x (List.mem_cons_of_mem _ hx)
    · exact .pure (.inr ⟨d, rfl, hd⟩)
structure Ev where
  kind : Nat
  near : Nat
  far : Nat
  side : Nat
def Ev.d (e : Ev) : D := .tup [.int e.kind, .int e.near, .int e.far, .int e.side]
def more (k : Nat) : Nat := if k = 0 then 1 else if k = 1 then 1 else if k = 2 then 2 else 3
structure Ev.ok (many : Nat) (e : Ev) : Prop where
  kind : e.kind ≤ 3
  near : e.near < many
  far : e.far < many
  ne : e.near ≠ e.far
  side : e.side < 2
def evSize (l : List Ev) : Nat := (l.map fun e => more e.kind).sum
def evDec (l : List Ev) : Nat := (l.map fun e => if 1 < e.kind then 1 else 0).sum
structure EvsOk (many most : Nat) (l : List Ev) : Prop where
  ok : ∀ e ∈ l, e.ok many
  size : evSize l ≤ most
  dec : evDec l ≤ 8
theorem len_le_size (l : List Ev) : l.length ≤ evSize l := by
  induction l with
  | nil => simp [evSize]
  | cons e l ih =>
    have : 1 ≤ more e.kind := by unfold more; split <;> (try split) <;> (try split) <;> omega
    simp [evSize] at ih ⊢
    omega
theorem more_at {k : Nat} (h : k ≤ 3) : atI [D.int 1, .int 1, .int 2, .int 3] (k : Int) = some (.int (more k)) := by
  match k, h with
  | 0, _ => rfl
  | 1, _ => rfl
  | 2, _ => rfl
  | 3, _ => rfl
theorem kind_at {k : Nat} (h : k < 7) : ∃ j : Nat, j ≤ 3 ∧ atI [D.int 0, .int 0, .int 0, .int 0, .int 1, .int 2, .int 3] (k : Int) = some (.int j) := by
  match k, h with
  | 0, _ => exact ⟨0, by omega, rfl⟩
  | 1, _ => exact ⟨0, by omega, rfl⟩
  | 2, _ => exact ⟨0, by omega, rfl⟩
  | 3, _ => exact ⟨0, by omega, rfl⟩
  | 4, _ => exact ⟨1, by omega, rfl⟩
  | 5, _ => exact ⟨2, by omega, rfl⟩
  | 6, _ => exact ⟨3, by omega, rfl⟩
abbrev J6 := Option D × Option D × Option D × Option D × Option D × Option D
theorem evSize_push (l : List Ev) (e : Ev) : evSize (l ++ [e]) = evSize l + more e.kind := by simp [evSize]
theorem evDec_push (l : List Ev) (e : Ev) : evDec (l ++ [e]) = evDec l + (if 1 < e.kind then 1 else 0) := by simp [evDec]
theorem evs_push {many most : Nat} {l : List Ev} (h : EvsOk many most l) {e : Ev} (he : e.ok many) (h1 : evSize l + more e.kind ≤ most) (h2 : evDec l + (if 1 < e.kind then 1 else 0) ≤ 8) : EvsOk many most (l ++ [e]) :=
  ⟨fun x hx => by
    rcases List.mem_append.mp hx with q | q
    · exact h.ok x q
    · rw [List.mem_singleton.mp q]; exact he, by rw [evSize_push]; exact h1, by rw [evDec_push]; exact h2⟩
theorem LibD.nx {B : Tb} (L : LibD B) (e : Int) (h0 : 0 < e) (h1 : e ≤ 1000000) : Gives (B.fn 8 [.cell 1, .int e]) fun x => ∃ k : Nat, x = .int k ∧ (k : Int) < e := by
  obtain ⟨n, rfl⟩ : ∃ n : Nat, e = n := ⟨e.toNat, by omega⟩
  exact (L.next n (by omega) (by omega)).imp fun x ⟨k, h, h'⟩ => ⟨k, h, by omega⟩
theorem rng1_nat {n : Nat} (h : n ≤ 1000000) : rng1 [.int n] = some (nats (List.range n)) := by
  have : small62 (n : Int) = true := by unfold small62; simp; omega
  show (if small62 (n : Int) = true then some (rangeD 0 (n : Int).toNat) else none) = _
  rw [this, Int.toNat_natCast, nats_range]
  rfl
theorem go_events (B : Tb) (L : LibD B) (many most : Nat) (h1 : 1 ≤ many) (h2 : many ≤ 16) (h3 : most ≤ 1000) : Gives (F_L_events_10.go B [.cell 1, .int many, .int most]) fun x => ∃ l : List Ev, x = .lst (l.map Ev.d) ∧ EvsOk many most l := by
  simp only [FnD.go, F_L_events_10, defF, endF, startD]
  simp
  generalize hb : MS.run B _ = body
  split
  · rename_i hm
    refine Gives.bind (L.nx _ (by omega) (by omega)) fun z hz => ?_
    obtain ⟨k, rfl, hk⟩ := hz
    rw [rng1_nat (by omega)]
    simp only [opt_some, bind_pure]
    refine (forL_gives (fun s : List Ev × J6 => [some (.cell 1), some (.int many), some (.int most), some (.lst (s.1.map Ev.d)), some (.int (evSize s.1)), some (.int (evDec s.1)), s.2.1, s.2.2.1, s.2.2.2.1, s.2.2.2.2.1, s.2.2.2.2.2.1, s.2.2.2.2.2.2]) (fun s => EvsOk many most s.1) (fun _ => False) ([], none, none, none, none, none, none) rfl ⟨by simp, by simp [evSize], by simp [evDec]⟩ ?_).bind ?_
    · intro d hd s hs
      rw [← hb]
      simp
      refine Gives.bind (L.nx _ (by omega) (by omega)) fun z hz => ?_
      obtain ⟨k1, rfl, hk1⟩ := hz
      obtain ⟨j, hj, ej⟩ := kind_at (k := k1) (by omega)
      rw [ix_lst, ej]
      simp only [opt_some, bind_pure]
      refine Gives.bind (L.nx _ (by omega) (by omega)) fun z hz => ?_
      obtain ⟨near, rfl, hnear⟩ := hz
      simp only [add_int, opt_some, bind_pure]
      refine Gives.bind (L.nx _ (by omega) (by omega)) fun z hz => ?_
      obtain ⟨f, rfl, hf⟩ := hz
      simp only [add_int, opt_some, bind_pure, bInt_int]
      rw [mod_pos (by omega)]
      simp only [opt_some, bind_pure]
      refine Gives.bind (L.nx _ (by omega) (by omega)) fun z hz => ?_
      obtain ⟨side, rfl, hside⟩ := hz
      simp
      obtain ⟨far, hfar, hfl, hfn⟩ : ∃ far : Nat, (((near : Int) + 1 + f) % many) = far ∧ far < many ∧ near ≠ far := by
        have g1 := Int.emod_nonneg ((near : Int) + 1 + f) (show (many : Int) ≠ 0 by omega)
        have g2 := Int.emod_lt_of_pos ((near : Int) + 1 + f) (show (0 : Int) < many by omega)
        refine ⟨(((near : Int) + 1 + f) % many).toNat, (Int.toNat_of_nonneg g1).symm, by omega, fun e => ?_⟩
        by_cases c : (near : Int) + 1 + f < many
        · rw [Int.emod_eq_of_lt (by omega) c] at e; omega
        · have e2 : ((near : Int) + 1 + f) % many = (near : Int) + 1 + f - many := by
            rw [← Int.sub_emod_right, Int.emod_eq_of_lt (by omega) (by omega)]
          rw [e2] at e; omega
      rw [hfar]
      have hlen := len_le_size s.1
      have hsz := hs.size
      have hdc := hs.dec
      have h16 : s.1.length ≤ 16777215 := by omega
      by_cases c8 : evDec s.1 = 8
      · rw [if_pos (by omega)]
        by_cases c9 : evSize s.1 + 1 ≤ most
        · rw [if_pos (by omega), if_pos h16]
          have q1 : List.map Ev.d s.1 ++ [D.tup [D.int 0, D.int near, D.int far, D.int side]] = (s.1 ++ [(⟨0, near, far, side⟩ : Ev)]).map Ev.d := by simp [Ev.d]
          have q2 : ((evSize s.1 : Nat) : Int) + 1 = ((evSize (s.1 ++ [(⟨0, near, far, side⟩ : Ev)]) : Nat) : Int) := by rw [evSize_push]; simp [more]
          have q3 : evDec s.1 = evDec (s.1 ++ [(⟨0, near, far, side⟩ : Ev)]) := by rw [evDec_push]; simp
          have q4 : EvsOk many most (s.1 ++ [(⟨0, near, far, side⟩ : Ev)]) := evs_push hs ⟨by show 0 ≤ 3; omega, by show near < many; omega, hfl, hfn, by show side < 2; omega⟩ (by show evSize s.1 + 1 ≤ most; omega) (by show evDec s.1 + 0 ≤ 8; omega)
          rw [q1, q2, q3]
          exact .pure ⟨_, ⟨_, _, _, _, _, _, rfl⟩, q4⟩
        · rw [if_neg (by omega)]
          exact .pure ⟨s.1, ⟨_, _, _, _, _, _, rfl⟩, hs⟩
      · rw [if_neg (by omega), more_at hj]
        simp
        by_cases c9 : evSize s.1 + more j ≤ most
        · rw [if_pos (by omega), if_pos h16]
          have q1 : List.map Ev.d s.1 ++ [D.tup [D.int j, D.int near, D.int far, D.int side]] = (s.1 ++ [(⟨j, near, far, side⟩ : Ev)]).map Ev.d := by simp [Ev.d]
          have q2 : ((evSize s.1 : Nat) : Int) + ((more j : Nat) : Int) = ((evSize (s.1 ++ [(⟨j, near, far, side⟩ : Ev)]) : Nat) : Int) := by rw [evSize_push]; simp
          have q3 : ((evDec s.1 : Nat) : Int) + (if (1 : Int) < j then 1 else 0) = ((evDec (s.1 ++ [(⟨j, near, far, side⟩ : Ev)]) : Nat) : Int) := by
            rw [evDec_push]
            show _ = ((evDec s.1 + (if 1 < j then 1 else 0) : Nat) : Int)
            split <;> split <;> omega
          have q4 : EvsOk many most (s.1 ++ [(⟨j, near, far, side⟩ : Ev)]) := evs_push hs ⟨hj, by show near < many; omega, hfl, hfn, by show side < 2; omega⟩ c9 (by show evDec s.1 + (if 1 < j then 1 else 0) ≤ 8; split <;> omega)
          rw [q1, q2, q3]
          exact .pure ⟨_, ⟨_, _, _, _, _, _, rfl⟩, q4⟩
        · rw [if_neg (by omega)]
          exact .pure ⟨s.1, ⟨_, _, _, _, _, _, rfl⟩, hs⟩
    · rintro r (⟨s', rfl, hs⟩ | ⟨d, _, hf⟩)
      · simp
        exact .pure ⟨s'.1, rfl, hs⟩
      · exact hf.elim
  · have e0 := rng1_nat (n := 0) (by omega)
    simp at e0
    rw [e0]
    simp
    exact .pure ⟨[], rfl, ⟨by simp, by simp [evSize], by simp [evDec]⟩⟩
end MW
end
section
set_option maxRecDepth 100000
namespace MW
open PySem L2 PySem.W
def F_L_kinds_24 : FnD := ⟨"_law_kinds", ["_law_error", "_law_kinds_here", "_law_k"], 1, (.cons (.set 1 (.lst (.cons (.isE (.var 0) 1) (.cons (.isE (.var 0) 2) (.cons (.isE (.var 0) 3) .nil)))))
  (.cons (.set 1 (.bin .add (.var 1) (.lst (.cons (.isE (.var 0) 8) (.cons (.isE (.var 0) 9) (.cons (.isE (.var 0) 10) .nil))))))
  (.cons (.set 1 (.bin .add (.var 1) (.lst (.cons (.isE (.var 0) 11) (.cons (.isE (.var 0) 12) (.cons (.isE (.var 0) 13) .nil))))))
  (.cons (.set 1 (.bin .add (.var 1) (.lst (.cons (.isE (.var 0) 14) (.cons (.isE (.var 0) 15) (.cons (.isE (.var 0) 16) .nil))))))
  (.cons (.ret (.comp [2] (.one 2) (.r1 (.cons (.int 12) .nil)) (.ix (.var 1) (.var 2)) (.var 2)))
  .nil)))))⟩
def F_L_bases_25 : FnD := ⟨"_law_bases", ["_law_error", "_law_bases_here"], 1, (.cons (.set 1 (.lst (.cons (.isE (.var 0) 0) (.cons (.isE (.var 0) 4) (.cons (.isE (.var 0) 5) .nil)))))
  (.cons (.ret (.bin .add (.var 1) (.lst (.cons (.isE (.var 0) 6) (.cons (.isE (.var 0) 7) .nil)))))
  .nil))⟩
def F_law_26 : FnD := ⟨"law", ["_law_script", "_law_draw", "_law_some", "_law_turn", "_law_one", "_law_marks", "_law_error", "_law_rows", "_law_last", "_law_told", "_law_every", "_law_k", "_law_caught", "e"], 1, (.cons (.set 1 (.call 7 (.cons (.var 0) .nil)))
  (.cons (.set 2 (.lst (.cons (.tup .nil) (.cons (.tup (.cons (.int 0) .nil)) (.cons (.tup (.cons (.str "match") (.cons (.int 3) .nil))) (.cons (.tup (.cons (.str "a") (.cons (.str "b") .nil))) (.cons (.str "") (.cons (.str "open") (.cons (.str "zz") (.cons .non (.cons (.int 5) (.cons (.lst .nil) (.cons .dict0 (.cons (.bl true) (.cons (.bin .sub (.bin .pow (.int 10) (.int 30)) (.int 1)) .nil)))))))))))))))
  (.cons (.for_ (.one 3) (.r1 (.cons (.bin .add (.int 2) (.bin .fdiv (.blt .min (.cons (.int 60) (.cons (.blt .len (.cons (.var 0) .nil)) .nil))) (.int 6))) .nil)) (.cons (.set 4 (.ix (.var 2) (.call 8 (.cons (.var 1) (.cons (.blt .len (.cons (.var 2) .nil)) .nil)))))
  (.cons (.set 5 (.lst (.cons (.mkE 1 (.var 4)) (.cons (.mkE 2 (.var 4)) (.cons (.mkE 3 (.var 4)) (.cons (.mkE 4 (.var 4)) .nil))))))
  (.cons (.drop [5] (.ifs (.cmp .ne (.blt .repr (.cons (.comp [6] (.one 6) (.seq (.var 5)) (.bl true) (.exA (.var 6) "place")) .nil)) (.blt .repr (.cons (.bin .mul (.lst (.cons (.var 4) .nil)) (.int 4)) .nil))) (.cons (.ret (.bl false))
  .nil) .nil))
  (.cons (.set 7 (.lst (.cons (.mkE 5 (.var 4)) (.cons (.mkE 6 (.var 4)) .nil))))
  (.cons (.set 8 (.lst (.cons (.mkE 7 (.var 4)) (.cons (.mkE 8 (.var 4)) (.cons (.mkE 9 (.var 4)) .nil)))))
  (.cons (.set 9 (.lst (.cons (.exA (.ix (.var 7) (.int 0)) "row") (.cons (.exA (.ix (.var 7) (.int 1)) "row") (.cons (.exA (.ix (.var 8) (.int 0)) "word") (.cons (.exA (.ix (.var 8) (.int 1)) "value") (.cons (.exA (.ix (.var 8) (.int 2)) "most") (.cons (.exA (.mkE 12 (.var 4)) "name") .nil))))))))
  (.cons (.ifs (.cmp .ne (.blt .repr (.cons (.var 9) .nil)) (.blt .repr (.cons (.bin .mul (.lst (.cons (.var 4) .nil)) (.int 6)) .nil))) (.cons (.ret (.bl false))
  .nil) .nil)
  (.cons (.set 10 (.bin .add (.bin .add (.bin .add (.var 5) (.var 7)) (.var 8)) (.lst (.cons (.mkT 10) (.cons (.mkT 11) .nil)))))
  (.cons (.drop [10] (.ifs (.or (.cmp .ne (.comp [6] (.one 6) (.seq (.var 10)) (.bl true) (.call 24 (.cons (.var 6) .nil))) (.comp [11] (.one 11) (.r1 (.cons (.int 11) .nil)) (.bl true) (.lst (.cons (.var 11) .nil)))) (.cmp .ne (.call 24 (.cons (.mkE 12 (.var 4)) .nil)) (.lst (.cons (.int 11) .nil)))) (.cons (.ret (.bl false))
  .nil) .nil))
  (.cons (.ifs (.cmp .ne (.comp [6] (.one 6) (.seq (.var 10)) (.bl true) (.call 25 (.cons (.var 6) .nil))) (.bin .mul (.lst (.cons (.lst (.cons (.bl true) (.cons (.bl true) (.cons (.bl false) (.cons (.bl false) (.cons (.bl false) .nil)))))) .nil)) (.int 11))) (.cons (.ret (.bl false))
  .nil) .nil)
  (.cons (.ifs (.cmp .ne (.call 25 (.cons (.mkE 12 (.var 4)) .nil)) (.lst (.cons (.bl false) (.cons (.bl false) (.cons (.bl true) (.cons (.bl true) (.cons (.bl false) .nil))))))) (.cons (.ret (.bl false))
  .nil) .nil)
  .nil))))))))))))
  (.cons (.ifs (.or (.cmp .ne (.call 24 (.cons (.mkT 0) .nil)) (.lst .nil)) (.cmp .ne (.sl (.call 25 (.cons (.mkT 0) .nil)) .no (.yes (.int 2))) (.lst (.cons (.bl true) (.cons (.bl true) .nil))))) (.cons (.ret (.bl false))
  .nil) .nil)
  (.cons (.set 12 .non)
  (.cons (.try_ [0] (some 13) .expr (.call 5 (.cons .non .nil)) (.set 12 (.var 13)))
  (.cons (.ifs (.or (.isN (.var 12)) (.cmp .ne (.call 24 (.cons (.var 12) .nil)) (.lst (.cons (.int 0) .nil)))) (.cons (.ret (.bl false))
  .nil) .nil)
  (.cons (.ret (.cmp .eq (.blt .repr (.cons (.lst (.cons (.glb 0) (.cons (.glb 1) (.cons (.glb 2) .nil)))) .nil)) (.blt .repr (.cons (.lst (.cons (.int 16) (.cons (.int 40) (.cons (.int 8) .nil)))) .nil))))
  .nil))))))))⟩
def md_k70 : MD := ⟨[(0, F_is_number_0), (1, F_is_side_1), (2, F_is_spot_of_2), (3, F_is_item_3), (4, F_is_switch_4), (5, F_need_web_5), (7, F_L_begun_7), (8, F_L_next_8), (24, F_L_kinds_24), (25, F_L_bases_25), (26, F_law_26)],
  [(0, "MOST_ENTRANTS", .int 16), (1, "MOST_MATCHES", .int 40), (2, "MOST_SWITCHES", .int 8), (3, "MATCH", .str "match"), (4, "PLACE", .str "place"), (5, "SIDES", .strs ["a", "b"])],
  [(0, ⟨"WebError", none, ""⟩), (1, ⟨"BadWeb", (some "place"), "WebError"⟩), (2, ⟨"BadText", (some "place"), "WebError"⟩), (3, ⟨"BadRow", (some "place"), "WebError"⟩), (4, ⟨"BadOrder", (some "place"), "WebError"⟩), (5, ⟨"Broken", (some "row"), "WebError"⟩), (6, ⟨"Unsound", (some "row"), "WebError"⟩), (7, ⟨"BadDeed", (some "word"), "WebError"⟩), (8, ⟨"BadNumber", (some "value"), "WebError"⟩), (9, ⟨"TooMany", (some "most"), "WebError"⟩), (10, ⟨"BadClaim", none, ""⟩), (11, ⟨"BadQuestion", none, ""⟩), (12, ⟨"Missing", (some "name"), "KeyError"⟩)],
  [(0, "WebError", [(0, true), (1, true), (2, true), (3, true), (4, true), (5, true), (6, true), (7, true), (8, true), (9, true), (10, true), (11, true), (12, false)]), (1, "BadWeb", [(0, false), (1, true), (2, false), (3, false), (4, false), (5, false), (6, false), (7, false), (8, false), (9, false), (10, false), (11, false), (12, false)]), (2, "BadText", [(0, false), (1, false), (2, true), (3, false), (4, false), (5, false), (6, false), (7, false), (8, false), (9, false), (10, false), (11, false), (12, false)]), (3, "BadRow", [(0, false), (1, false), (2, false), (3, true), (4, false), (5, false), (6, false), (7, false), (8, false), (9, false), (10, false), (11, false), (12, false)]), (8, "BadOrder", [(0, false), (1, false), (2, false), (3, false), (4, true), (5, false), (6, false), (7, false), (8, false), (9, false), (10, false), (11, false), (12, false)]), (9, "Broken", [(0, false), (1, false), (2, false), (3, false), (4, false), (5, true), (6, false), (7, false), (8, false), (9, false), (10, false), (11, false), (12, false)]), (10, "Unsound", [(0, false), (1, false), (2, false), (3, false), (4, false), (5, false), (6, true), (7, false), (8, false), (9, false), (10, false), (11, false), (12, false)]), (11, "BadDeed", [(0, false), (1, false), (2, false), (3, false), (4, false), (5, false), (6, false), (7, true), (8, false), (9, false), (10, false), (11, false), (12, false)]), (12, "BadNumber", [(0, false), (1, false), (2, false), (3, false), (4, false), (5, false), (6, false), (7, false), (8, true), (9, false), (10, false), (11, false), (12, false)]), (13, "TooMany", [(0, false), (1, false), (2, false), (3, false), (4, false), (5, false), (6, false), (7, false), (8, false), (9, true), (10, false), (11, false), (12, false)]), (14, "BadClaim", [(0, false), (1, false), (2, false), (3, false), (4, false), (5, false), (6, false), (7, false), (8, false), (9, false), (10, true), (11, false), (12, false)]), (15, "BadQuestion", [(0, false), (1, false), (2, false), (3, false), (4, false), (5, false), (6, false), (7, false), (8, false), (9, false), (10, false), (11, true), (12, false)]), (16, "Missing", [(0, false), (1, false), (2, false), (3, false), (4, false), (5, false), (6, false), (7, false), (8, false), (9, false), (10, false), (11, false), (12, true)]), (4, "ValueError", [(0, true), (1, true), (2, true), (3, true), (4, true), (5, true), (6, true), (7, true), (8, true), (9, true), (10, true), (11, true), (12, false)]), (5, "KeyError", [(0, false), (1, false), (2, false), (3, false), (4, false), (5, false), (6, false), (7, false), (8, false), (9, false), (10, false), (11, false), (12, true)]), (6, "LookupError", [(0, false), (1, false), (2, false), (3, false), (4, false), (5, false), (6, false), (7, false), (8, false), (9, false), (10, false), (11, false), (12, true)]), (7, "OverflowError", [(0, false), (1, false), (2, false), (3, false), (4, false), (5, false), (6, false), (7, false), (8, false), (9, false), (10, false), (11, false), (12, false)])]⟩
end MW
end
section
set_option Elab.async false
set_option autoImplicit false
set_option maxRecDepth 100000
set_option maxHeartbeats 4000000
/-! QL1: errors and constants. -/
namespace MW
open PySem L2 PySem.W
abbrev K70 (l : Nat) : Tb := md_k70.tb l
def q70 : List D := [.tup [], .tup [.int 0], .tup [.str "match", .int 3], .tup [.str "a", .str "b"], .str "", .str "open", .str "zz", .non, .int 5, .lst [], .dic [], .bl true, .int (10 ^ 30 - 1)]
def MS.nthS : MS → Nat → MS
  | .cons a _, 0 => a
  | .cons _ b, n + 1 => b.nthS n
  | a, _ => a
def MS.dropS : MS → Nat → MS
  | a, 0 => a
  | .cons _ b, n + 1 => b.dropS n
  | a, _ => a
def MS.bodyS : MS → MS
  | .for_ _ _ b => b
  | a => a
/-- a turn behind its first store -/
def turn70 : MS := ((F_law_26.a.nthS 2).bodyS).dropS 1
def env70 (ns : List Int) (t one : D) (s6 s11 s12 s13 : Option D) : En := [some (.scr ns), some (.cell 1), some (.lst q70), some t, some one, some (.lst [.exn 1 one, .exn 2 one, .exn 3 one, .exn 4 one]), s6, some (.lst [.exn 5 one, .exn 6 one]), some (.lst [.exn 7 one, .exn 8 one, .exn 9 one]), some (.lst [one, one, one, one, one, one]),
  some (.lst [.exn 1 one, .exn 2 one, .exn 3 one, .exn 4 one, .exn 5 one, .exn 6 one, .exn 7 one, .exn 8 one, .exn 9 one, .exn 10 .non, .exn 11 .non]), s11, s12, s13]
theorem turn_ok (l : Nat) (ns : List Int) (t : D) (s5 s6 s7 s8 s9 s10 s11 s12 s13 : Option D) (k : Nat) (hk : k < q70.length) :
    MS.run (K70 (l + 2)) turn70 [some (.scr ns), some (.cell 1), some (.lst q70), some t, some q70[k], s5, s6, s7, s8, s9, s10, s11, s12, s13] = M.pure (.nx (env70 ns t q70[k] s6 s11 s12 s13)) := by
  funext w
  have hk' : k < 13 := hk
  obtain rfl | rfl | rfl | rfl | rfl | rfl | rfl | rfl | rfl | rfl | rfl | rfl | rfl : k = 0 ∨ k = 1 ∨ k = 2 ∨ k = 3 ∨ k = 4 ∨ k = 5 ∨ k = 6 ∨ k = 7 ∨ k = 8 ∨ k = 9 ∨ k = 10 ∨ k = 11 ∨ k = 12 := by omega
  all_goals kernel_rfl
/-- what stands behind the loop -/
def rest70 : MS := F_law_26.a.dropS 3
theorem rest_ok (l : Nat) (ns : List Int) (s3 s4 s5 s6 s7 s8 s9 s10 s11 s12 s13 : Option D) :
    ∀ w, MS.run (K70 (l + 7)) rest70 [some (.scr ns), some (.cell 1), some (.lst q70), s3, s4, s5, s6, s7, s8, s9, s10, s11, s12, s13] w = .ok (.rt (.bl true)) w := by
  intro w
  kernel_rfl
theorem some_ok (l : Nat) (ns : List Int) : MS.run (K70 (l + 1)) (F_law_26.a.nthS 1) [some (.scr ns), some (.cell 1), none, none, none, none, none, none, none, none, none, none, none, none] =
    M.pure (.nx [some (.scr ns), some (.cell 1), some (.lst q70), none, none, none, none, none, none, none, none, none, none, none]) := by
  funext w
  kernel_rfl
theorem k7_fn {i : Nat} {d : FnD} (h : md_k70.defs.lookup i = some d) (l : Nat) : (K70 (l + 1)).fn i = d.go (K70 l) := MD.fn_eq h l
theorem k7_d (l : Nat) : LibD (K70 (l + 1)) where
  next n h h' := by rw [k7_fn (i := 8) rfl]; exact go_next _ n h h'
theorem k70_split : F_law_26.a = .cons (.set 1 (.call 7 (.cons (.var 0) .nil))) (.cons (F_law_26.a.nthS 1) (.cons (.for_ (.one 3) (.r1 (.cons (.bin .add (.int 2) (.bin .fdiv (.blt .min (.cons (.int 60) (.cons (.blt .len (.cons (.var 0) .nil)) .nil))) (.int 6))) .nil)) (.cons (.set 4 (.ix (.var 2) (.call 8 (.cons (.var 1) (.cons (.blt .len (.cons (.var 2) .nil)) .nil))))) turn70)) rest70)) := by kernel_rfl
theorem loop_ok (ns : List Int) : Gives (MS.run (K70 40) (.for_ (.one 3) (.r1 (.cons (.bin .add (.int 2) (.bin .fdiv (.blt .min (.cons (.int 60) (.cons (.blt .len (.cons (.var 0) .nil)) .nil))) (.int 6))) .nil)) (.cons (.set 4 (.ix (.var 2) (.call 8 (.cons (.var 1) (.cons (.blt .len (.cons (.var 2) .nil)) .nil))))) turn70))
    [some (.scr ns), some (.cell 1), some (.lst q70), none, none, none, none, none, none, none, none, none, none, none]) fun r => ∃ s3 s4 s5 s6 s7 s8 s9 s10 s11 s12 s13, r = .nx [some (.scr ns), some (.cell 1), some (.lst q70), s3, s4, s5, s6, s7, s8, s9, s10, s11, s12, s13] := by
  simp
  rw [fdiv_pos (by omega) (by omega)]
  simp only [opt_some, bind_pure, add_int]
  obtain ⟨laps, hlaps, hl⟩ : ∃ n : Nat, 2 + min (60 : Int) ns.length / 6 = n ∧ n ≤ 1000000 := ⟨(2 + min (60 : Int) ns.length / 6).toNat, by omega, by omega⟩
  rw [hlaps, rng1_nat hl]
  simp only [opt_some, bind_pure]
  generalize hb : MS.run (K70 40) _ = body
  refine Gives.imp (forL_gives (fun s : Option D × Option D × Option D × Option D × Option D × Option D × Option D × Option D × Option D × Option D × Option D => [some (.scr ns), some (.cell 1), some (.lst q70), s.1, s.2.1, s.2.2.1, s.2.2.2.1, s.2.2.2.2.1, s.2.2.2.2.2.1, s.2.2.2.2.2.2.1, s.2.2.2.2.2.2.2.1, s.2.2.2.2.2.2.2.2.1, s.2.2.2.2.2.2.2.2.2.1, s.2.2.2.2.2.2.2.2.2.2])
    (fun _ => True) (fun _ => False) (none, none, none, none, none, none, none, none, none, none, none) rfl trivial ?_) fun r hr => ?_
  · intro t ht s _
    rw [← hb]
    simp
    refine Gives.bind ((k7_d 39).nx 13 (by omega) (by omega)) fun z hz => ?_
    obtain ⟨k, rfl, hk⟩ := hz
    have hk' : k < q70.length := by show k < 13; omega
    rw [ix_lst, show atI q70 (k : Int) = some q70[k] from (atI_nat hk').trans (List.getElem?_eq_getElem hk')]
    simp only [opt_some, bind_pure]
    rw [turn_ok 38 ns t _ _ _ _ _ _ _ _ _ k hk']
    exact .pure ⟨_, _, _, _, _, _, _, _, _, _, _, rfl⟩
  · rcases hr with ⟨s, rfl, _⟩ | ⟨_, _, hf⟩
    · exact ⟨_, _, _, _, _, _, _, _, _, _, _, rfl⟩
    · exact hf.elim
theorem run_k70 (ns : List Int) (h : ns.length ≤ 63) : ∃ w', (md_k70.tb 41).fn 26 [.scr ns] ⟨none⟩ = .ok (.bl true) w' := by
  have e : (K70 41).fn 26 = F_law_26.go (K70 40) := k7_fn (i := 26) rfl 40
  show ∃ w', (K70 41).fn 26 [.scr ns] ⟨none⟩ = _
  rw [e]
  have hb : ∃ d, (K70 40).fn 7 [.scr ns] ⟨none⟩ = .ok (.cell 1) ⟨some d⟩ := by rw [k7_fn (i := 7) rfl 39]; exact go_begun _ ns h
  obtain ⟨d, hd⟩ := hb
  show ∃ w', M.bind (F_law_26.a.run (K70 40) [some (.scr ns), none, none, none, none, none, none, none, none, none, none, none, none, none]) _ ⟨none⟩ = _
  rw [k70_split]
  obtain ⟨r, d', e2, s3, s4, s5, s6, s7, s8, s9, s10, s11, s12, s13, rfl⟩ := loop_ok ns d
  have e3 := rest_ok 33 ns s3 s4 s5 s6 s7 s8 s9 s10 s11 s12 s13 ⟨some d'⟩
  generalize MS.for_ _ _ _ = loop at e2
  simp
  rw [bind_at hd]
  rw [some_ok 39]
  simp
  rw [bind_at e2]
  simp
  rw [bind_at e3]
  exact ⟨_, rfl⟩
end MW
end
open PySem PySem.W PyProof.Rows
set_option maxRecDepth 100000 in
set_option maxHeartbeats 0 in
theorem PySem.Challenge.cw_matchwebs_k70_errors_and_constants_holds : PySem.Challenge.rw_matchwebs_k70_errors_and_constants.Holds := by
  w_on; o_law; k_head; (case hw => w_witness2)
  k_fill
  refine MW.MD.walk (l := PySem.Challenge.rw_matchwebs_k70_errors_and_constants) MW.md_k70 26 40 (dl := MW.F_law_26) (x := "_law_script") rfl rfl (fun w h Y => PySem.W.kIn_of Y) ?imp ?ok rfl ?hx ?hN ?room MW.run_k70
  case imp => decide +kernel
  case ok => intro w; kernel_rfl
  case hx => rfl
  case hN => rfl
  case room => exact ⟨rfl, by decide, by decide⟩
