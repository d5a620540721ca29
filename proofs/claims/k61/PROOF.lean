import PyProof.Rows.All
import Wide.All
import OpenK.AllK
import Wide.FinOn
import HandS.ForMost
import HandS.Exc
import HandS.TryOnly
import HandS.ExcOwn
import HandS.ExcInit
import HandS.Defaults
import HandS.Zip
import HandS.IsInst
import HandS.Star
import HandS.Deep
import HandS.Steps
import HandS.Text
import HandS.Flow
import HandS.TupAny
import HandS.Style
import HandS.Iter
import HandS.Comp
import KE.KExcInit
import PyProof.ExcBaseAll.LookupError
import PyProof.ExcBaseAll.IndexError
import HandS.ExcValue
import HandS.ExcField
import KE.KExcIs
import HandS.Small
import HandS.ExcIs
import HandS.StrSplit
import HandS.HeadHook1
import HandS.HeadHook2
import HandS.HeadEnd
import HandS.Head0
import HandS.Head1
import HandS.Head2
import HandS.Words
import PySem.Challenge.RW_rubgrove_k61_error_classes
set_option linter.all false
/-! The small language: values, heap, syntax, interpreter. Pure Lean, nothing of the model. -/
namespace G

/-- values: tuples, texts, numbers, errors are plain data; lists, dicts, instances stand in the heap; what is never changed again is plain data, too -/
inductive MV where
  | non | bl (b : Bool) | int (i : Int) | str (s : List Nat)
  | tup (xs : List MV) | ref (a : Nat) | cls (c : Nat) | exc (c : Nat) (fs : List (Nat × MV))
  | frl (xs : List MV) | wrl (xs : List MV) | frd (kvs : List (MV × MV)) | obj (c : Nat) (fs : List (Nat × MV))
  deriving Inhabited

mutual
/-- == of plain data (a bool is its number) -/
def MV.beq : MV → MV → Bool
  | .non, y => match y with
    | .non => true
    | _ => false
  | .bl a, y => match y with
    | .bl b => a == b
    | .int j => decide ((if a then (1 : Int) else 0) = j)
    | _ => false
  | .int i, y => match y with
    | .int j => decide (i = j)
    | .bl b => decide (i = (if b then (1 : Int) else 0))
    | _ => false
  | .str s, y => match y with
    | .str t => decide (s = t)
    | _ => false
  | .tup xs, y => match y with
    | .tup ys => MV.beqs xs ys
    | _ => false
  | .frl xs, y => match y with
    | .frl ys => MV.beqs xs ys
    | _ => false
  | _, _ => false
def MV.beqs : List MV → List MV → Bool
  | [], ys => ys.isEmpty
  | x :: xs, ys => match ys with
    | [] => false
    | y :: ys => MV.beq x y && MV.beqs xs ys
end

mutual
def MV.depth : MV → Nat
  | .tup xs => MV.depths xs + 1
  | .frl xs => MV.depths xs + 1
  | _ => 0
def MV.depths : List MV → Nat
  | [] => 0
  | x :: xs => max (MV.depth x) (MV.depths xs)
end
mutual
/-- data: no address within -/
def MV.plain : MV → Bool
  | .non => true
  | .bl _ => true
  | .int _ => true
  | .str _ => true
  | .tup xs => MV.plains xs
  | .frl xs => MV.plains xs
  | _ => false
def MV.plains : List MV → Bool
  | [] => true
  | x :: xs => MV.plain x && MV.plains xs
end
mutual
/-- every address within is below n -/
def MV.under (n : Nat) : MV → Bool
  | .ref a => Nat.blt a n
  | .tup xs => MV.unders n xs
  | .frl xs => MV.unders n xs
  | .wrl xs => MV.unders n xs
  | .exc _ fs => MV.underf n fs
  | .obj _ fs => MV.underf n fs
  | .frd kvs => MV.underd n kvs
  | _ => true
def MV.unders (n : Nat) : List MV → Bool
  | [] => true
  | x :: xs => MV.under n x && MV.unders n xs
def MV.underf (n : Nat) : List (Nat × MV) → Bool
  | [] => true
  | (_, x) :: xs => MV.under n x && MV.underf n xs
def MV.underd (n : Nat) : List (MV × MV) → Bool
  | [] => true
  | (k, x) :: xs => MV.under n k && MV.under n x && MV.underd n xs
end
def MV.isNon : MV → Bool
  | .non => true
  | _ => false
/-- none, bools, numbers, texts -/
def MV.flat : MV → Bool
  | .non => true
  | .bl _ => true
  | .int _ => true
  | .str _ => true
  | _ => false

inductive MO where
  | lst (xs : List MV) | dic (kvs : List (MV × MV)) | ins (c : Nat) (fs : List (Nat × MV))
  deriving Inhabited

/-- a tree by the bits of a number -/
inductive Tr where
  | nil | node (o : Option MO) (l r : Tr)
def Tr.getF : Nat → Tr → Nat → Option MO
  | 0, _, _ => none
  | f + 1, t, a => match t with
    | .nil => none
    | .node o l r => match a with
      | 0 => o
      | b + 1 => if b % 2 = 0 then Tr.getF f l (b / 2) else Tr.getF f r (b / 2)
def Tr.setF : Nat → Tr → Nat → Option MO → Tr
  | 0, t, _, _ => t
  | f + 1, t, a, v => match t with
    | .nil => match a with
      | 0 => .node v .nil .nil
      | b + 1 => if b % 2 = 0 then .node none (Tr.setF f .nil (b / 2) v) .nil else .node none .nil (Tr.setF f .nil (b / 2) v)
    | .node o l r => match a with
      | 0 => .node v l r
      | b + 1 => if b % 2 = 0 then .node o (Tr.setF f l (b / 2) v) r else .node o l (Tr.setF f r (b / 2) v)
theorem Tr.getF_setF : ∀ (f g : Nat) (t : Tr) (a b : Nat) (v : Option MO), a < f → b < g → Tr.getF g (Tr.setF f t a v) b = if b = a then v else Tr.getF g t b
  | 0, _, _, a, _, _, h, _ => absurd h (Nat.not_lt_zero a)
  | _ + 1, 0, _, _, b, _, _, h => absurd h (Nat.not_lt_zero b)
  | f + 1, g + 1, t, a, b, v, ha, hb => by
    cases t with
    | nil =>
      cases a with
      | zero => cases b with
        | zero => rfl
        | succ b =>
          have e1 : Tr.getF g Tr.nil (b / 2) = none := by cases g <;> rfl
          simp [Tr.setF, Tr.getF, e1]
      | succ a =>
        have h1 : a / 2 < f := by omega
        cases b with
        | zero => by_cases h2 : a % 2 = 0 <;> simp [Tr.setF, Tr.getF, h2]
        | succ b =>
          have h3 : b / 2 < g := by omega
          have e1 : ∀ c, Tr.getF g Tr.nil c = none := fun c => by cases g <;> rfl
          have ih := Tr.getF_setF f g .nil (a / 2) (b / 2) v h1 h3
          by_cases h2 : a % 2 = 0 <;> by_cases h4 : b % 2 = 0 <;> simp only [Tr.setF, Tr.getF, h2, h4, if_true, if_false, e1, ih] <;> (by_cases h5 : b / 2 = a / 2) <;> (by_cases h6 : b = a) <;> simp [h5, h6] <;> (try omega)
    | node o l r =>
      cases a with
      | zero => cases b with
        | zero => rfl
        | succ b => simp [Tr.setF, Tr.getF]
      | succ a =>
        have h1 : a / 2 < f := by omega
        cases b with
        | zero => by_cases h2 : a % 2 = 0 <;> simp [Tr.setF, Tr.getF, h2]
        | succ b =>
          have h3 : b / 2 < g := by omega
          have ihl := Tr.getF_setF f g l (a / 2) (b / 2) v h1 h3
          have ihr := Tr.getF_setF f g r (a / 2) (b / 2) v h1 h3
          by_cases h2 : a % 2 = 0 <;> by_cases h4 : b % 2 = 0 <;> simp only [Tr.setF, Tr.getF, h2, h4, if_true, if_false, ihl, ihr] <;> (by_cases h5 : b / 2 = a / 2) <;> (by_cases h6 : b = a) <;> simp [h5, h6] <;> (try omega)

/-! ### the heap -/
/-- n: the next address; m: what stands below m was not changed since a call began -/
structure MHp where
  t : Tr
  n : Nat
  m : Nat
def MHp.get (h : MHp) (a : Nat) : Option MO := if a < h.n then Tr.getF (a + 1) h.t a else none
def MHp.set (h : MHp) (a : Nat) (o : MO) : MHp := ⟨Tr.setF (a + 1) h.t a (some o), h.n, if a < h.m then a else h.m⟩
/-- an object leaves the heap: it is never changed again -/
def MHp.del (h : MHp) (a : Nat) : MHp := ⟨Tr.setF (a + 1) h.t a none, h.n, if a < h.m then a else h.m⟩
def MHp.push (h : MHp) (o : MO) : MHp := ⟨Tr.setF (h.n + 1) h.t h.n (some o), h.n + 1, h.m⟩
/-- a call begins -/
def MHp.mark (h : MHp) : MHp := ⟨h.t, h.n, h.n⟩
/-- .. ends -/
def MHp.unmark (h : MHp) (k : Nat) : MHp := ⟨h.t, h.n, if k < h.m then k else h.m⟩
theorem MHp.get_lt {h : MHp} {a : Nat} {o : MO} (e : h.get a = some o) : a < h.n := by
  unfold MHp.get at e
  split at e
  · assumption
  · cases e
theorem MHp.get_set {h : MHp} {a : Nat} (o : MO) (b : Nat) (ha : a < h.n) : (h.set a o).get b = if b = a then some o else h.get b := by
  unfold MHp.get MHp.set
  by_cases hb : b < h.n
  · rw [if_pos hb, if_pos hb, Tr.getF_setF _ _ _ _ _ _ (Nat.lt_succ_self a) (Nat.lt_succ_self b)]
  · have e : b ≠ a := fun z => hb (z ▸ ha)
    rw [if_neg hb, if_neg hb, if_neg e]
theorem MHp.get_del {h : MHp} {a : Nat} (b : Nat) (ha : a < h.n) : (h.del a).get b = if b = a then none else h.get b := by
  unfold MHp.get MHp.del
  by_cases hb : b < h.n
  · rw [if_pos hb, if_pos hb, Tr.getF_setF _ _ _ _ _ _ (Nat.lt_succ_self a) (Nat.lt_succ_self b)]
  · have e : b ≠ a := fun z => hb (z ▸ ha)
    rw [if_neg hb, if_neg hb, if_neg e]
theorem MHp.get_push (h : MHp) (o : MO) (b : Nat) : (h.push o).get b = if b = h.n then some o else h.get b := by
  unfold MHp.get MHp.push
  dsimp only
  by_cases hb : b < h.n + 1
  · rw [if_pos hb, Tr.getF_setF _ _ _ _ _ _ (Nat.lt_succ_self _) (Nat.lt_succ_self b)]
    by_cases e : b = h.n
    · rw [if_pos e, if_pos e]
    · rw [if_neg e, if_neg e, if_pos (by omega)]
  · rw [if_neg hb, if_neg (by omega), if_neg (by omega)]
theorem MHp.set_n {h : MHp} {a : Nat} {o : MO} : (h.set a o).n = h.n := rfl
theorem MHp.del_n {h : MHp} {a : Nat} : (h.del a).n = h.n := rfl
theorem MHp.push_n {h : MHp} {o : MO} : (h.push o).n = h.n + 1 := rfl
theorem MHp.mark_n {h : MHp} : h.mark.n = h.n := rfl
theorem MHp.mark_get {h : MHp} (a : Nat) : h.mark.get a = h.get a := rfl
theorem MHp.unmark_get {h : MHp} {k : Nat} (a : Nat) : (h.unmark k).get a = h.get a := rfl
theorem MHp.get_n (h : MHp) : h.get h.n = none := by
  unfold MHp.get
  rw [if_neg (Nat.lt_irrefl _)]
def MHp.empty : MHp := ⟨.nil, 0, 0⟩

/-! ### results -/
inductive R (α : Type) where
  | ok (a : α) (h : MHp) | ex (e : MV) (h : MHp) | no
def R.bind {α β : Type} (x : R α) (k : α → MHp → R β) : R β := match x with
  | .ok a h => k a h
  | .ex e h => .ex e h
  | .no => .no
def R.get {α : Type} (x : Option α) (h : MHp) : R α := match x with
  | some a => .ok a h
  | none => .no

/-! ### the syntax -/
inductive Bo where
  | add | sub | mul | fdiv | mod | pow
  deriving DecidableEq
inductive Co where
  | eq | ne | lt | le | gt | ge | is | isnot | isin | notin
  deriving DecidableEq
inductive Ty where
  | int | str | bool | tup | lst | dic | cls (c : Nat) | bt (n : Nat)
  deriving DecidableEq
/-- a built-in type that is no error -/
def Ty.flat : Ty → Bool
  | .cls _ => false
  | .bt _ => false
  | _ => true
inductive Bi where
  | len | list | tuple | int | str | all | any | sum | sorted | set | min2 | max2 | bool
  deriving DecidableEq
inductive Bm where
  | append | pop | index | split | join | startswith | endswith | partition | get2 | clear | popd | count | strip
  deriving DecidableEq
mutual
inductive E where
  | var (i : Nat) | lit (v : MV) | gv (x : Nat) (v : MV) | tup (es : Es) | lst (z : Bool) (es : Es)
  | bin (z : Bool) (op : Bo) (a b : E) | cmp (op : Co) (a b : E) | chain (o1 o2 : Co) (a b c : E)
  | neg (a : E) | not (a : E) | and (a b : E) | or (a b : E) | ite (c a b : E)
  | idx (a i : E) | slice (z : Bool) (a : E) (lo hi : Eo) | rev (z : Bool) (a : E) | fld (a : E) (f : Nat)
  | call (f : Nat) (es : Es) | mkexc (c : Nat) (es : Es) | isin (a : E) (ts : List Ty)
  | bi (z : Bool) (b : Bi) (es : Es) | bm (b : Bm) (o : E) (es : Es)
  | lc (z : Bool) (e : E) (tg : Tg) (it : It) (c : Eo) (own : List Nat)
  | split (z : Bool) (o : E) (s c : List Nat) (ps : List (List Nat))
  | frz (i : Nat) | nope
inductive Es where
  | nil | cons (e : E) (r : Es) | star (e : E) (r : Es)
inductive Eo where
  | none | some (e : E)
inductive It where
  | val (e : E) | range1 (e : E) | range2 (a b : E) | enum (e : E) | zip (a b : E)
inductive Tg where
  | v (i : Nat) | tup (ts : Tgs) | sub (o i : E) | at (o : E) (f : Nat)
inductive Tgs where
  | nil | cons (t : Tg) (r : Tgs)
inductive S where
  | expr (e : E) | asg (t : Tg) (e : E) | aug (op : Bo) (i : Nat) (e : E)
  | ite (c : E) (a b : Ss) | for_ (t : Tg) (it : It) (b : Ss) | while_ (c : E) (b : Ss) | ret (e : Eo)
  | pass | brk | cont | nope
inductive Ss where
  | nil | cons (s : S) (r : Ss)
end

/-! ### frames -/
abbrev Fr := List (Option MV)
def Fr.at (f : Fr) (i : Nat) : Option MV := match f[i]? with
  | some v => v
  | none => none
/-- what a statement ends in -/
inductive Ctl where
  | nx (f : Fr) | rt (v : MV) | bk (f : Fr) | ct (f : Fr) | xx (e : MV) (f : Fr)
def R.lift {α : Type} (x : R α) (fr : Fr) (k : α → MHp → R Ctl) : R Ctl := match x with
  | .ok a h => k a h
  | .ex e h => .ok (.xx e fr) h
  | .no => .no
def R.calm {α β : Type} (x : R α) (k : α → MHp → R β) : R β := match x with
  | .ok a h => k a h
  | .ex _ _ => .no
  | .no => .no

/-! ### values' operations -/
/-- texts have a greatest length, sequences too -/
def lineN : Nat := 16777216
def truM (v : MV) (h : MHp) : Option Bool := match v with
  | .non => some false
  | .bl b => some b
  | .int i => some (i != 0)
  | .str s => some (!s.isEmpty)
  | .tup xs => some (!xs.isEmpty)
  | .frl xs => some (!xs.isEmpty)
  | .wrl xs => some (!xs.isEmpty)
  | .ref a => match h.get a with
    | some (.lst xs) => some (!xs.isEmpty)
    | _ => none
  | _ => none
/-- the items of a list, a tuple -/
def seqOf (v : MV) (h : MHp) : Option (List MV) := match v with
  | .tup xs => some xs
  | .frl xs => some xs
  | .wrl xs => some xs
  | .ref a => match h.get a with
    | some (.lst xs) => some xs
    | _ => none
  | _ => none
def listOf (v : MV) (h : MHp) : Option (List MV) := match v with
  | .frl xs => some xs
  | .wrl xs => some xs
  | .ref a => match h.get a with
    | some (.lst xs) => some xs
    | _ => none
  | _ => none
/-- a list of our own -/
def ownOf (v : MV) (h : MHp) : Option (List MV) := match v with
  | .frl xs => some xs
  | .ref a => match h.get a with
    | some (.lst xs) => some xs
    | _ => none
  | _ => none
/-- a value as it stands now: plain data -/
def snap (h : MHp) (x : MV) : Option MV := match x with
  | .ref a => match h.get a with
    | some (.lst xs) => if MV.plains xs then some (.frl xs) else none
    | _ => none
  | x => if x.plain then some x else none
def eqD (x y : MV) : Option Bool := if decide (MV.depth x < 60) && decide (MV.depth y < 60) then some (MV.beq x y) else none
def eqM (x y : MV) (h : MHp) : Option Bool := match snap h x, snap h y with
  | some x, some y => eqD x y
  | _, _ => none
def strLt : List Nat → List Nat → Bool
  | [], [] => false
  | [], _ :: _ => true
  | _ :: _, [] => false
  | a :: r, b :: t => if a < b then true else if b < a then false else strLt r t
/-- a new list; z: it is never changed -/
def newL (z : Bool) (xs : List MV) (h : MHp) : R MV := if xs.length ≤ lineN then (if z then .ok (.frl xs) h else .ok (.ref h.n) (h.push (.lst xs))) else .no
def binM (z : Bool) (op : Bo) (x y : MV) (h : MHp) : R MV := match op with
  | .add => match x with
    | .int i => match y with
      | .int j => .ok (.int (i + j)) h
      | _ => .no
    | .str s => match y with
      | .str t => if s.length + t.length ≤ lineN then .ok (.str (s ++ t)) h else .no
      | _ => .no
    | .tup s => match y with
      | .tup t => if s ≠ [] ∧ s.length + t.length ≤ lineN then .ok (.tup (s ++ t)) h else .no
      | _ => .no
    | x => match ownOf x h, ownOf y h with
      | some xs, some ys => newL z (xs ++ ys) h
      | _, _ => .no
  | .sub => match x with
    | .int i => match y with
      | .int j => .ok (.int (i - j)) h
      | _ => .no
    | _ => .no
  | .mul => match x with
    | .int i => match y with
      | .int j => if (-(2 ^ 64) < i ∧ i < 2 ^ 64) ∨ (-(2 ^ 64) < j ∧ j < 2 ^ 64) then .ok (.int (i * j)) h else .no
      | _ => .no
    | _ => .no
  | .fdiv => match x with
    | .int i => match y with
      | .int j => if 0 < j ∧ j < 1073741824 then .ok (.int (i / j)) h else .no
      | _ => .no
    | _ => .no
  | .mod => match x with
    | .int i => match y with
      | .int j => if 0 < j then .ok (.int (i % j)) h else .no
      | _ => .no
    | _ => .no
  | .pow => match x with
    | .int i => match y with
      | .int j => if 0 ≤ j ∧ j ≤ 1000000 ∧ i.natAbs < 2 ^ 64 then .ok (.int (i ^ j.toNat)) h else .no
      | _ => .no
    | _ => .no
/-- x in ys, for plain items -/
def memM (x : MV) : List MV → Bool
  | [] => false
  | y :: r => MV.beq y x || memM x r
def inM (x y : MV) (h : MHp) : Option Bool := match y with
  | .str s => match x with
    | .str [c] => some (decide (c ∈ s))
    | _ => none
  | .tup ys => if x.flat && ys.all MV.flat then some (memM x ys) else none
  | y => match listOf y h with
    | some ys => if x.plain && MV.plains ys && decide (x.depth < 60) && decide (MV.depths ys < 59) then some (memM x ys) else none
    | none => none
def cmpM (op : Co) (x y : MV) (h : MHp) : Option Bool := match op with
  | .eq => eqM x y h
  | .ne => (eqM x y h).map (!·)
  | .lt => match x with
    | .int i => match y with
      | .int j => some (decide (i < j))
      | _ => none
    | .str s => match y with
      | .str t => some (strLt s t)
      | _ => none
    | _ => none
  | .le => match x with
    | .int i => match y with
      | .int j => some (decide (i ≤ j))
      | _ => none
    | _ => none
  | .gt => match x with
    | .int i => match y with
      | .int j => some (decide (j < i))
      | _ => none
    | _ => none
  | .ge => match x with
    | .int i => match y with
      | .int j => some (decide (j ≤ i))
      | _ => none
    | _ => none
  | .is => match y with
    | .non => some x.isNon
    | _ => none
  | .isnot => match y with
    | .non => some (!x.isNon)
    | _ => none
  | .isin => inM x y h
  | .notin => (inM x y h).map (!·)
/-- the placeI that an index means -/
def placeI (i : Int) (n : Nat) : Option Nat := if 0 ≤ i then (if i < n then some i.toNat else none) else if -(n : Int) ≤ i then some (i + n).toNat else none
def idxM (x y : MV) (h : MHp) : Option MV := match y with
  | .int i => match seqOf x h with
    | some xs => match placeI i xs.length with
      | some k => xs[k]?
      | none => none
    | none => match x with
      | .str s => match placeI i s.length with
        | some k => match s[k]? with
          | some c => some (.str [c])
          | none => none
        | none => none
      | _ => none
  | _ => none
/-- where a slice's end lies -/
def cutL (i : Int) (n : Nat) : Nat := if 0 ≤ i then min i.toNat n else (i + n).toNat
def hiCut (hi : Option Int) (n : Nat) : Nat := match hi with
  | some j => cutL j n
  | none => n
def subL {α : Type} (xs : List α) (lo hi : Nat) : List α := (xs.drop lo).take (hi - lo)
end G
set_option linter.all false
/-! The interpreter. -/
namespace G
/-- what an expression may ask of the program: calls, classes, errors' fields -/
structure Ds where
  call : Nat → List MV → MHp → R MV
  sub : Nat → Nat → Bool
  subB : Nat → Nat → Bool
  efs : Nat → List (Nat × (Nat ⊕ MV))
  nx : Nat
  nf : Nat

def tyIs (D : Ds) (v : MV) (h : MHp) (t : Ty) : Option Bool := match v with
  | .bl _ => if t.flat then some (t == .bool || t == .int) else none
  | .int _ => if t.flat then some (t == .int) else none
  | .str _ => if t.flat then some (t == .str) else none
  | .tup _ => if t.flat then some (t == .tup) else none
  | .non => if t.flat then some false else none
  | .exc c _ => match t with
    | .cls d => if c < D.nx ∧ d < D.nx then some (D.sub c d) else none
    | .bt n => if c < D.nx ∧ n < 3 then some (D.subB c n) else none
    | _ => none
  | .ref a => match h.get a with
    | some (.lst _) => if t.flat then some (t == .lst) else none
    | _ => none
  | .frl _ => if t.flat then some (t == .lst) else none
  | .wrl _ => if t.flat then some (t == .lst) else none
  | .frd _ => if t.flat then some (t == .dic) else none
  | .obj _ _ => none
  | .cls _ => none
def tyAny (D : Ds) (v : MV) (h : MHp) : List Ty → Option Bool
  | [] => some false
  | t :: r => match tyIs D v h t with
    | some true => some true
    | some false => tyAny D v h r
    | none => none
def fldOf {β : Type} (f : Nat) : List (Nat × β) → Option β
  | [] => none
  | (g, v) :: r => if g = f then some v else fldOf f r
def fldM (D : Ds) (v : MV) (f : Nat) (h : MHp) : Option MV := match v with
  | .exc c fs => if c < D.nx ∧ f < D.nf then fldOf f fs else none
  | _ => none
def putFld (f : Nat) (v : MV) : List (Nat × MV) → List (Nat × MV)
  | [] => [(f, v)]
  | (g, w) :: r => if g = f then (g, v) :: r else (g, w) :: putFld f v r
/-- bools alone -/
def blsM : List MV → Option (List Bool)
  | [] => some []
  | .bl b :: r => (blsM r).map (b :: ·)
  | _ => none
def lenM (v : MV) (h : MHp) : Option Nat := match v with
  | .str s => some s.length
  | .ref a => match h.get a with
    | some (.lst xs) => some xs.length
    | _ => none
  | .tup xs => some xs.length
  | .frl xs => some xs.length
  | .wrl xs => some xs.length
  | _ => none
def biM (z : Bool) (b : Bi) (vs : List MV) (h : MHp) : R MV := match b, vs with
  | .len, [v] => match lenM v h with
    | some n => .ok (.int n) h
    | none => .no
  | .list, [v] => match seqOf v h with
    | some xs => newL z xs h
    | none => .no
  | .int, [.int i] => .ok (.int i) h
  | .int, [.bl b] => .ok (.int (if b then 1 else 0)) h
  | .all, [v] => match listOf v h with
    | some xs => match blsM xs with
      | some bs => .ok (.bl (bs.all id)) h
      | none => .no
    | none => .no
  | .any, [v] => match listOf v h with
    | some xs => match blsM xs with
      | some bs => .ok (.bl (bs.any id)) h
      | none => .no
    | none => .no
  | _, _ => .no
def bmPre (b : Bm) (o : MV) (h : MHp) : Bool := match b, o with
  | .append, .ref a => match h.get a with
    | some (.lst _) => true
    | _ => false
  | _, _ => false
def bmM (b : Bm) (o : MV) (vs : List MV) (h : MHp) : R MV := match b, o, vs with
  | .append, .ref a, [v] => match h.get a with
    | some (.lst xs) => if xs.length < lineN then .ok .non (h.set a (.lst (xs ++ [v]))) else .no
    | _ => .no
  | _, _, _ => .no
def sliceM (z : Bool) (v : MV) (lo hi : Option Int) (h : MHp) : R MV := match v with
  | .str s => .ok (.str (subL s (cutL (lo.getD 0) s.length) (hiCut hi s.length))) h
  | .tup s => .ok (.tup (subL s (cutL (lo.getD 0) s.length) (hiCut hi s.length))) h
  | .ref _ => match listOf v h with
    | some s => newL z (subL s (cutL (lo.getD 0) s.length) (hiCut hi s.length)) h
    | none => .no
  | .frl s => newL z (subL s (cutL (lo.getD 0) s.length) (hiCut hi s.length)) h
  | .wrl s => newL z (subL s (cutL (lo.getD 0) s.length) (hiCut hi s.length)) h
  | _ => .no
def setIdx (o i v : MV) (h : MHp) : R Unit := match o, i with
  | .ref a, .int k => match h.get a with
    | some (.lst xs) => match placeI k xs.length with
      | some j => .ok () (h.set a (.lst (xs.set j v)))
      | none => .no
    | _ => .no
  | _, _ => .no
def setFld (o : MV) (f : Nat) (v : MV) (h : MHp) : R Unit := match o with
  | .ref a => match h.get a with
    | some (.ins c fs) => .ok () (h.set a (.ins c (putFld f v fs)))
    | _ => .no
  | _ => .no
/-- what a loop walks: a list as it stands at each turn; or items known ahead -/
inductive Src where
  | live (a : Nat) | items (xs : List MV) | zipT (xs ys : List MV)
/-- the item of a turn: some none: the end -/
def Src.item (s : Src) (i : Nat) (h : MHp) : Option (Option MV) := match s with
  | .live a => match listOf (.ref a) h with
    | some xs => some xs[i]?
    | none => none
  | .items xs => some xs[i]?
  | .zipT xs ys => match xs[i]?, ys[i]? with
    | some x, some y => some (some (.tup [x, y]))
    | _, _ => some none
def Src.fuel (s : Src) (h : MHp) : Nat := match s with
  | .live a => match listOf (.ref a) h with
    | some xs => xs.length + 1
    | none => 0
  | .items xs => xs.length + 1
  | .zipT xs _ => xs.length + 1
def srcOf (v : MV) (h : MHp) : Option Src := match v with
  | .tup xs => some (.items xs)
  | .frl xs => some (.items xs)
  | .wrl xs => some (.items xs)
  | .str s => some (.items (s.map fun c => .str [c]))
  | .ref a => match h.get a with
    | some (.lst _) => some (.live a)
    | _ => none
  | _ => none
def rangeL (lo : Int) (n : Nat) : List MV := (List.range n).map fun (k : Nat) => MV.int (lo + (k : Int))
/-- the turns of a for -/
def forL (src : Src) (body : MV → Fr → MHp → R Ctl) : Nat → Nat → Fr → MHp → R Ctl
  | 0, _, _, _ => .no
  | f + 1, i, fr, h => match src.item i h with
    | none => .no
    | some none => .ok (.nx fr) h
    | some (some x) => (body x fr h).calm fun c h => match c with
      | .nx fr => forL src body f (i + 1) fr h
      | .ct fr => forL src body f (i + 1) fr h
      | .bk fr => .ok (.nx fr) h
      | .rt v => .ok (.rt v) h
      | .xx e fr => .ok (.xx e fr) h
/-- the turns of a list comprehension -/
def lcL (src : Src) (turn : MV → MHp → R (Option MV)) : Nat → Nat → List MV → MHp → R (List MV)
  | 0, _, _, _ => .no
  | f + 1, i, acc, h => match src.item i h with
    | none => .no
    | some none => .ok acc h
    | some (some x) => (turn x h).calm fun o h => match o with
      | none => lcL src turn f (i + 1) acc h
      | some y => if acc.length < lineN then lcL src turn f (i + 1) (acc ++ [y]) h else .no
def wipeF (fr : Fr) : List Nat → Fr
  | [] => fr
  | v :: vs => (wipeF fr vs).set v none
def whileL (test : Fr → MHp → R Bool) (body : Fr → MHp → R Ctl) : Nat → Fr → MHp → R Ctl
  | 0, _, _ => .no
  | f + 1, fr, h => (test fr h).lift fr fun b h => if b then (body fr h).calm fun c h => match c with
      | .nx fr => whileL test body f fr h
      | .ct fr => whileL test body f fr h
      | .bk fr => .ok (.nx fr) h
      | .rt v => .ok (.rt v) h
      | .xx e fr => .ok (.xx e fr) h
    else .ok (.nx fr) h
def excFs (l : List (Nat × (Nat ⊕ MV))) (vs : List MV) : Option (List (Nat × MV)) := match l with
  | [] => some []
  | (f, .inr v) :: r => (excFs r vs).map ((f, v) :: ·)
  | (f, .inl k) :: r => match vs[k]? with
    | some v => (excFs r vs).map ((f, v) :: ·)
    | none => none
def excN (l : List (Nat × (Nat ⊕ MV))) : Nat := (l.filter fun p => match p.2 with | .inl _ => true | .inr _ => false).length
def asInt : MV → Option Int
  | .int i => some i
  | _ => none
def tgsN : Tgs → Nat
  | .nil => 0
  | .cons _ r => tgsN r + 1
variable (D : Ds)
mutual
def evE : E → Fr → MHp → R MV
  | .var i, fr, h => R.get (fr.at i) h
  | .lit v, _, h => .ok v h
  | .gv _ v, _, h => .ok v h
  | .tup es, fr, h => (evEs es fr h).bind fun vs h => if vs.length ≤ lineN then .ok (.tup vs) h else .no
  | .lst z es, fr, h => (evEs es fr h).bind fun vs h => newL z vs h
  | .bin z op a b, fr, h => (evE a fr h).bind fun x h => (evE b fr h).bind fun y h => binM z op x y h
  | .cmp op a b, fr, h => (evE a fr h).bind fun x h => (evE b fr h).bind fun y h => R.get ((cmpM op x y h).map .bl) h
  | .chain o1 o2 a b c, fr, h => (evE a fr h).bind fun x h => (evE b fr h).bind fun y h => match cmpM o1 x y h with
    | some true => (evE c fr h).bind fun z h => R.get ((cmpM o2 y z h).map .bl) h
    | some false => .ok (.bl false) h
    | none => .no
  | .neg a, fr, h => (evE a fr h).bind fun x h => match x with
    | .int i => .ok (.int (-i)) h
    | _ => .no
  | .not a, fr, h => (evE a fr h).bind fun x h => R.get ((truM x h).map fun b => .bl (!b)) h
  | .and a b, fr, h => (evE a fr h).bind fun x h => match truM x h with
    | some true => evE b fr h
    | some false => .ok x h
    | none => .no
  | .or a b, fr, h => (evE a fr h).bind fun x h => match truM x h with
    | some true => .ok x h
    | some false => evE b fr h
    | none => .no
  | .ite c a b, fr, h => (evE c fr h).bind fun x h => match truM x h with
    | some true => evE a fr h
    | some false => evE b fr h
    | none => .no
  | .idx a i, fr, h => (evE a fr h).bind fun x h => (evE i fr h).bind fun y h => R.get (idxM x y h) h
  | .slice z a lo hi, fr, h => (evE a fr h).bind fun x h => (evO lo fr h).bind fun l h => (evO hi fr h).bind fun u h => sliceM z x l u h
  | .rev z a, fr, h => (evE a fr h).bind fun x h => match listOf x h with
      | some s => newL z s.reverse h
      | none => .no
  | .fld a f, fr, h => (evE a fr h).bind fun x h => R.get (fldM D x f h) h
  | .call f es, fr, h => (evEs es fr h).bind fun vs h => D.call f vs h
  | .mkexc c es, fr, h => (evEs es fr h).bind fun vs h => if c < D.nx ∧ vs.length = excN (D.efs c) then (match excFs (D.efs c) vs with
    | some fs => .ok (.exc c fs) h
    | none => .no) else .no
  | .isin a ts, fr, h => (evE a fr h).bind fun x h => R.get ((tyAny D x h ts).map .bl) h
  | .bi z b es, fr, h => (evEs es fr h).bind fun vs h => biM z b vs h
  | .bm b o es, fr, h => (evE o fr h).bind fun x h => if bmPre b x h then (evEs es fr h).bind fun vs h => bmM b x vs h else .no
  | .split z o s _ ps, fr, h => (evE o fr h).bind fun x h => match x with
    | .str t => if t = s then newL z (ps.map .str) h else .no
    | _ => .no
  | .lc z e tg it c own, fr, h => (evI it fr h).bind fun src h =>
      (lcL src (fun x h => (evT tg x (wipeF fr own) h).bind fun fr h => (evC c fr h).bind fun b h => if b then (evE e fr h).bind fun y h => .ok (some y) h else .ok none h) (src.fuel h) 0 [] h).bind
        fun xs h => newL z xs h
  | .frz i, fr, h => match fr.at i with
    | some (.ref a) => match h.get a with
      | some (.lst xs) => .ok (.frl xs) (h.del a)
      | _ => .no
    | _ => .no
  | .nope, _, _ => .no
def evEs : Es → Fr → MHp → R (List MV)
  | .nil, _, h => .ok [] h
  | .cons e r, fr, h => (evE e fr h).bind fun x h => (evEs r fr h).bind fun xs h => .ok (x :: xs) h
  | .star e r, fr, h => (evE e fr h).bind fun x h => match seqOf x h with
    | some ys => (evEs r fr h).bind fun xs h => .ok (ys ++ xs) h
    | none => .no
def evO : Eo → Fr → MHp → R (Option Int)
  | .none, _, h => .ok none h
  | .some e, fr, h => (evE e fr h).bind fun x h => match x with
    | .int i => .ok (some i) h
    | _ => .no
/-- a condition that may lack -/
def evC : Eo → Fr → MHp → R Bool
  | .none, _, h => .ok true h
  | .some e, fr, h => (evE e fr h).bind fun x h => R.get (truM x h) h
def evI : It → Fr → MHp → R Src
  | .val e, fr, h => (evE e fr h).bind fun x h => R.get (srcOf x h) h
  | .range1 e, fr, h => (evE e fr h).bind fun x h => match x with
    | .int j => if -(2 ^ 62) ≤ j ∧ j < 2 ^ 62 then .ok (.items (rangeL 0 j.toNat)) h else .no
    | _ => .no
  | .range2 a b, fr, h => (evE a fr h).bind fun x h => (evE b fr h).bind fun y h => match x, y with
    | .int i, .int j => if -(2 ^ 62) ≤ i ∧ i < 2 ^ 62 ∧ -(2 ^ 62) ≤ j ∧ j < 2 ^ 62 then .ok (.items (rangeL i (j - i).toNat)) h else .no
    | _, _ => .no
  | .enum _, _, _ => .no
  | .zip a b, fr, h => (evE a fr h).bind fun x h => (evE b fr h).bind fun y h => match x, y with
    | .tup xs, .tup ys => .ok (.zipT xs ys) h
    | _, _ => .no
def evT : Tg → MV → Fr → MHp → R Fr
  | .v i, x, fr, h => .ok (fr.set i (some x)) h
  | .tup ts, x, fr, h => match x with
    | .tup xs => if xs.length = tgsN ts then evTs ts xs fr h else .no
    | _ => .no
  | .sub o i, x, fr, h => (evE o fr h).bind fun ov h => (evE i fr h).bind fun iv h => (setIdx ov iv x h).bind fun _ h => .ok fr h
  | .at o f, x, fr, h => (evE o fr h).bind fun ov h => (setFld ov f x h).bind fun _ h => .ok fr h
def evTs : Tgs → List MV → Fr → MHp → R Fr
  | .nil, xs, fr, h => match xs with
    | [] => .ok fr h
    | _ => .no
  | .cons t r, xs, fr, h => match xs with
    | x :: xs => (evT t x fr h).bind fun fr h => evTs r xs fr h
    | [] => .no
end
def evTest (e : E) (fr : Fr) (h : MHp) : R Bool := (evE D e fr h).bind fun x h => R.get (truM x h) h
/-- the bound of a while's turnsN -/
def turnsN : Nat := 16777216
mutual
def exS : S → Fr → MHp → R Ctl
  | .expr e, fr, h => (evE D e fr h).lift fr fun _ h => .ok (.nx fr) h
  | .asg t e, fr, h => (evE D e fr h).lift fr fun x h => (evT D t x fr h).calm fun fr h => .ok (.nx fr) h
  | .aug op i e, fr, h => match fr.at i with
    | some x => (evE D e fr h).lift fr fun y h => (binM true op x y h).calm fun z h => .ok (.nx (fr.set i (some z))) h
    | none => .no
  | .ite c a b, fr, h => (evTest D c fr h).lift fr fun t h => if t then exSs a fr h else exSs b fr h
  | .for_ t it b, fr, h => (evI D it fr h).lift fr fun src h => forL src (fun x fr h => (evT D t x fr h).calm fun fr h => exSs b fr h) (src.fuel h) 0 fr h
  | .while_ c b, fr, h => whileL (fun fr h => evTest D c fr h) (fun fr h => exSs b fr h) turnsN fr h
  | .ret e, fr, h => match e with
    | .none => .ok (.rt .non) h
    | .some e => (evE D e fr h).lift fr fun v h => .ok (.rt v) h
  | .pass, fr, h => .ok (.nx fr) h
  | .brk, fr, h => .ok (.bk fr) h
  | .cont, fr, h => .ok (.ct fr) h
  | .nope, _, _ => .no
def exSs : Ss → Fr → MHp → R Ctl
  | .nil, fr, h => .ok (.nx fr) h
  | .cons s r, fr, h => (exS s fr h).calm fun c h => match c with
    | .nx fr => exSs r fr h
    | .rt v => .ok (.rt v) h
    | .bk fr => .ok (.bk fr) h
    | .ct fr => .ok (.ct fr) h
    | .xx e fr => .ok (.xx e fr) h
end
/-- a def: its parameters, its slots, its body -/
structure Df where
  np : Nat
  ns : Nat
  body : Ss
def startFr (vs : List MV) (ns : Nat) : Fr := vs.map some ++ List.replicate (ns - vs.length) none
/-- the program's defs, so many calls deep -/
def endM (c : Ctl) (h : MHp) : R MV := match c with
  | .rt v => .ok v h
  | .nx _ => .ok .non h
  | .xx e _ => .ex e h
  | _ => .no
structure Tab where
  sub : Nat → Nat → Bool
  subB : Nat → Nat → Bool
  efs : Nat → List (Nat × (Nat ⊕ MV))
  nx : Nat
  nf : Nat
/-- behind a call: where nothing of before was changed and nothing new is handed on, the heap is as before -/
def R.rest (h0 : MHp) (r : R MV) : R MV := match r with
  | .ok v h => if h0.n ≤ h.m ∧ v.under h0.n = true then .ok v h0 else .ok v (h.unmark h0.m)
  | .ex e h => if h0.n ≤ h.m ∧ e.under h0.n = true then .ex e h0 else .ex e (h.unmark h0.m)
  | .no => .no
def callN (defs : List Df) (T : Tab) : Nat → Nat → List MV → MHp → R MV
  | 0, _, _, _ => .no
  | d + 1, f, vs, h => match defs[f]? with
    | none => .no
    | some df => if vs.length = df.np then ((exSs ⟨callN defs T d, T.sub, T.subB, T.efs, T.nx, T.nf⟩ df.body (startFr vs df.ns) h.mark).calm endM).rest h else .no
def dsOf (defs : List Df) (T : Tab) (d : Nat) : Ds := ⟨callN defs T d, T.sub, T.subB, T.efs, T.nx, T.nf⟩
end G
set_option Elab.async false
set_option linter.all false
set_option maxRecDepth 100000
set_option maxHeartbeats 1000000
/-! How the small language's values and heap stand to the layer's. -/
namespace G
open PySem PySem.Spec PyProof.Rows L2

/-- what is fixed: the written part, the names of fields, the classes' addresses -/
structure Stat where
  K : PySem.W.Frag
  fn : Nat → PySem.Str
  ca : Nat → Addr
/-- which of our addresses is which of theirs; which of ours may still change; which of theirs nobody sees -/
structure Rho where
  nm : Nat → Option Addr
  lv : Nat → Prop
  hid : Addr → Prop
/-- nothing that stands there changes any more -/
def NL (ρ : Rho) (a : Addr) : Prop := ¬ ρ.hid a ∧ ∀ m, ρ.nm m = some a → ¬ ρ.lv m
def noRho : Rho := ⟨fun _ => none, fun _ => False, fun _ => False⟩
def S8 (s : List Nat) : PySem.Str := ⟨s.toArray⟩
/-- a text of ours: short enough, real signs -/
def okS (s : List Nat) : Bool := decide (s.length ≤ lineN) && s.all fun c => decide (c < 0x110000)
/-- at a: an error of the class at C, its own dict at d, whatever became of its other fields -/
def exoL (a C d : Addr) : HO := .ext fun h => ∃ (oe : Obj) (vs : Array Value), h.get? a = some oe ∧ Zc (.ref C) (some d) oe ∧ oe.data = .fields vs
/-- a tuple that stays -/
def TupAt (K : PySem.W.Frag) (H : Hp) (a : Addr) (xs : List V) : Prop :=
  H a = some (.tup xs) ∨ ∃ (o : Obj) (its : Array Value) (n : Nat), K.lookup a = some o ∧ o.cls = .type "tuple" ∧ o.data = .seq its n ∧ its.size ≤ sizeLine ∧ Vals xs its.toList
/-- a list that is read only -/
def FrlAt (K : PySem.W.Frag) (ρ : Rho) (H : Hp) (a : Addr) (xs : List V) : Prop :=
  (H a = some (.lst xs) ∧ NL ρ a) ∨ (∃ o, H a = some (.frz o (.lst xs))) ∨ ∃ (o : Obj) (its : Array Value) (n : Nat), K.lookup a = some o ∧ o.cls = .type "list" ∧ o.dict = none ∧ o.data = .seq its n ∧ its.size ≤ sizeLine ∧ Vals xs its.toList
theorem FrlAt.sq {K : PySem.W.Frag} {ρ : Rho} {H : Hp} {a : Addr} {xs : List V} (h : FrlAt K ρ H a xs) : SqL K H a xs := h.elim (fun h => .inl (.inl h.1)) fun h => h.elim (fun h => .inl (.inr h)) .inr
theorem TupAt.sq {K : PySem.W.Frag} {H : Hp} {a : Addr} {xs : List V} (h : TupAt K H a xs) : SqT K H a xs := h.elim (fun h => .inl (.inl h)) .inr
variable (Z : Stat)
mutual
def RV (ρ : Rho) (H : Hp) : MV → V → Prop
  | .non, v => v = .non
  | .bl b, v => v = .bl b
  | .int i, v => v = .int i
  | .str s, v => v = .str (S8 s) ∧ okS s = true
  | .tup xs, v => ∃ a vs, v = .ref a ∧ TupAt Z.K H a vs ∧ RVs ρ H xs vs
  | .ref m, v => ∃ a, v = .ref a ∧ ρ.nm m = some a
  | .cls c, v => v = .ref (Z.ca c)
  | .exc c fs, v => ∃ a d fs', v = .ref a ∧ H a = some (exoL a (Z.ca c) d) ∧ H d = some (.xd fs') ∧ RVf ρ H fs fs'
  | .frl xs, v => ∃ a vs, v = .ref a ∧ (H a = some (.lst vs) ∧ NL ρ a) ∧ RVs ρ H xs vs
  | .wrl xs, v => ∃ a vs, v = .ref a ∧ FrlAt Z.K ρ H a vs ∧ RVs ρ H xs vs
  | .frd _, _ => False
  | .obj _ _, _ => False
def RVs (ρ : Rho) (H : Hp) : List MV → List V → Prop
  | [], vs => vs = []
  | x :: xs, vs => ∃ v r, vs = v :: r ∧ RV ρ H x v ∧ RVs ρ H xs r
def RVf (ρ : Rho) (H : Hp) : List (Nat × MV) → List (Str × V) → Prop
  | [], fs => fs = []
  | (f, x) :: r, fs => ∃ v t, fs = (Z.fn f, v) :: t ∧ RV ρ H x v ∧ RVf ρ H r t
end
/-- what never changes once it stands -/
def Imm : HO → Prop
  | .tup _ => True
  | .ext _ => True
  | .frz _ _ => True
  | .xd _ => True
  | _ => False
structure Ext0 (ρ : Rho) (H : Hp) (ρ' : Rho) (H' : Hp) : Prop where
  ro : ∀ m a, ρ.nm m = some a → ρ'.nm m = some a
  im : ∀ a o, H a = some o → Imm o → H' a = some o
  fz : ∀ a o, H a = some o → NL ρ a → H' a = some o ∧ NL ρ' a
structure Ext (ρ : Rho) (H : Hp) (ρ' : Rho) (H' : Hp) : Prop where
  ro : ∀ m a, ρ.nm m = some a → ρ'.nm m = some a
  im : ∀ a o, H a = some o → Imm o → H' a = some o
  fz : ∀ a o, H a = some o → NL ρ a → H' a = some o ∧ NL ρ' a
  hd : ∀ a o, ρ.hid a → H a = some o → H' a = some o ∧ ρ'.hid a
section
variable {Z : Stat} {ρ ρ' ρ'' : Rho} {H H' H'' : Hp}
theorem Ext.refl : Ext ρ H ρ H := ⟨fun _ _ h => h, fun _ _ h _ => h, fun _ _ h k => ⟨h, k⟩, fun _ _ k h => ⟨h, k⟩⟩
theorem Ext.trans (a : Ext ρ H ρ' H') (b : Ext ρ' H' ρ'' H'') : Ext ρ H ρ'' H'' := ⟨fun m x h => b.ro m x (a.ro m x h), fun x o h i => b.im x o (a.im x o h i) i, fun x o h i => let ⟨p, q⟩ := a.fz x o h i; b.fz x o p q, fun x o h i => let ⟨p, q⟩ := a.hd x o h i; b.hd x o q p⟩
theorem Ext.e0 (e : Ext ρ H ρ' H') : Ext0 ρ H ρ' H' := ⟨e.ro, e.im, e.fz⟩
theorem TupAt.ext0 {K : PySem.W.Frag} {a : Addr} {xs : List V} (e : Ext0 ρ H ρ' H') (h : TupAt K H a xs) : TupAt K H' a xs := h.elim (fun h => .inl (e.im _ _ h trivial)) .inr
theorem FrlAt.ext0 {K : PySem.W.Frag} {a : Addr} {xs : List V} (e : Ext0 ρ H ρ' H') (h : FrlAt K ρ H a xs) : FrlAt K ρ' H' a xs := h.elim (fun h => .inl (e.fz _ _ h.1 h.2)) fun h => .inr (h.elim (fun ⟨o, h⟩ => .inl ⟨o, e.im _ _ h trivial⟩) .inr)
mutual
theorem RV.ext0 (e : Ext0 ρ H ρ' H') : ∀ (x : MV) (v : V), RV Z ρ H x v → RV Z ρ' H' x v
  | .non, _, h => by simpa only [RV] using h
  | .bl b, _, h => by simpa only [RV] using h
  | .int i, _, h => by simpa only [RV] using h
  | .str s, _, h => by simpa only [RV] using h
  | .tup xs, _, h => by
    simp only [RV] at h ⊢
    obtain ⟨a, vs, h1, h2, h3⟩ := h
    exact ⟨a, vs, h1, h2.ext0 e, RVs.ext0 e xs vs h3⟩
  | .ref m, _, h => by
    simp only [RV] at h ⊢
    obtain ⟨a, h1, h2⟩ := h
    exact ⟨a, h1, e.ro _ _ h2⟩
  | .cls c, _, h => by simpa only [RV] using h
  | .frd _, _, h => by simp only [RV] at h
  | .obj _ _, _, h => by simp only [RV] at h
  | .exc c fs, _, h => by
    simp only [RV] at h ⊢
    obtain ⟨a, d, fs', h1, h2, h3, h4⟩ := h
    exact ⟨a, d, fs', h1, e.im _ _ h2 trivial, e.im _ _ h3 trivial, RVf.ext0 e fs fs' h4⟩
  | .frl xs, _, h => by
    simp only [RV] at h ⊢
    obtain ⟨a, vs, h1, h2, h3⟩ := h
    exact ⟨a, vs, h1, e.fz _ _ h2.1 h2.2, RVs.ext0 e xs vs h3⟩
  | .wrl xs, _, h => by
    simp only [RV] at h ⊢
    obtain ⟨a, vs, h1, h2, h3⟩ := h
    exact ⟨a, vs, h1, h2.ext0 e, RVs.ext0 e xs vs h3⟩
theorem RVs.ext0 (e : Ext0 ρ H ρ' H') : ∀ (xs : List MV) (vs : List V), RVs Z ρ H xs vs → RVs Z ρ' H' xs vs
  | [], _, h => by simpa only [RVs] using h
  | x :: xs, _, h => by
    simp only [RVs] at h ⊢
    obtain ⟨v, r, h1, h2, h3⟩ := h
    exact ⟨v, r, h1, RV.ext0 e x v h2, RVs.ext0 e xs r h3⟩
theorem RVf.ext0 (e : Ext0 ρ H ρ' H') : ∀ (fs : List (Nat × MV)) (gs : List (Str × V)), RVf Z ρ H fs gs → RVf Z ρ' H' fs gs
  | [], _, h => by simpa only [RVf] using h
  | (f, x) :: r, _, h => by
    simp only [RVf] at h ⊢
    obtain ⟨v, t, h1, h2, h3⟩ := h
    exact ⟨v, t, h1, RV.ext0 e x v h2, RVf.ext0 e r t h3⟩
end
theorem TupAt.ext {K : PySem.W.Frag} {a : Addr} {xs : List V} (e : Ext ρ H ρ' H') (h : TupAt K H a xs) : TupAt K H' a xs := h.ext0 e.e0
theorem FrlAt.ext {K : PySem.W.Frag} {a : Addr} {xs : List V} (e : Ext ρ H ρ' H') (h : FrlAt K ρ H a xs) : FrlAt K ρ' H' a xs := h.ext0 e.e0
theorem RV.ext (e : Ext ρ H ρ' H') (x : MV) (v : V) (h : RV Z ρ H x v) : RV Z ρ' H' x v := RV.ext0 e.e0 x v h
theorem RVs.ext (e : Ext ρ H ρ' H') (x : List MV) (v : List V) (h : RVs Z ρ H x v) : RVs Z ρ' H' x v := RVs.ext0 e.e0 x v h
theorem RVf.ext (e : Ext ρ H ρ' H') (x : List (Nat × MV)) (v : List (Str × V)) (h : RVf Z ρ H x v) : RVf Z ρ' H' x v := RVf.ext0 e.e0 x v h
theorem RVs.length : ∀ {xs : List MV} {vs : List V}, RVs Z ρ H xs vs → xs.length = vs.length
  | [], _, h => by simp only [RVs] at h; rw [h] <;> rfl
  | x :: xs, _, h => by
    simp only [RVs] at h
    obtain ⟨v, r, rfl, _, h3⟩ := h
    simp only [List.length_cons, RVs.length h3]
theorem RVs.get : ∀ {xs : List MV} {vs : List V} {i : Nat} {x : MV}, RVs Z ρ H xs vs → xs[i]? = some x → ∃ v, vs[i]? = some v ∧ RV Z ρ H x v
  | [], _, _, _, _, e => by simp at e
  | x :: xs, _, i, y, h, e => by
    simp only [RVs] at h
    obtain ⟨v, r, rfl, h2, h3⟩ := h
    cases i with
    | zero =>
      simp only [List.getElem?_cons_zero, Option.some.injEq] at e
      subst e
      exact ⟨v, rfl, h2⟩
    | succ i =>
      simp only [List.getElem?_cons_succ] at e
      obtain ⟨w, e1, e2⟩ := RVs.get h3 e
      exact ⟨w, by simpa using e1, e2⟩
theorem RVs.append : ∀ {xs ys : List MV} {vs ws : List V}, RVs Z ρ H xs vs → RVs Z ρ H ys ws → RVs Z ρ H (xs ++ ys) (vs ++ ws)
  | [], _, _, _, h, k => by simp only [RVs] at h; subst h; exact k
  | x :: xs, _, _, _, h, k => by
    simp only [RVs] at h
    obtain ⟨v, r, rfl, h2, h3⟩ := h
    simp only [List.cons_append, RVs]
    exact ⟨v, _, rfl, h2, RVs.append h3 k⟩
theorem RVs.one {x : MV} {v : V} (h : RV Z ρ H x v) : RVs Z ρ H [x] [v] := by
  simp only [RVs]
  exact ⟨v, [], rfl, h, rfl⟩
theorem RVs.set : ∀ {xs : List MV} {vs : List V} (i : Nat) {x : MV} {v : V}, RVs Z ρ H xs vs → RV Z ρ H x v → RVs Z ρ H (xs.set i x) (vs.set i v)
  | [], _, _, _, _, h, _ => by simp only [RVs] at h; subst h; simp [RVs]
  | y :: xs, _, i, x, v, h, k => by
    simp only [RVs] at h
    obtain ⟨w, r, rfl, h2, h3⟩ := h
    cases i with
    | zero => simp only [List.set_cons_zero, RVs]; exact ⟨v, r, rfl, k, h3⟩
    | succ i => simp only [List.set_cons_succ, RVs]; exact ⟨w, _, rfl, h2, RVs.set i h3 k⟩
theorem RVs.take : ∀ {xs : List MV} {vs : List V} (n : Nat), RVs Z ρ H xs vs → RVs Z ρ H (xs.take n) (vs.take n)
  | [], _, _, h => by simp only [RVs] at h; subst h; simp [RVs]
  | y :: xs, _, n, h => by
    simp only [RVs] at h
    obtain ⟨w, r, rfl, h2, h3⟩ := h
    cases n with
    | zero => simp [RVs]
    | succ n => simp only [List.take_succ_cons, RVs]; exact ⟨w, _, rfl, h2, RVs.take n h3⟩
theorem RVs.drop : ∀ {xs : List MV} {vs : List V} (n : Nat), RVs Z ρ H xs vs → RVs Z ρ H (xs.drop n) (vs.drop n)
  | [], _, _, h => by simp only [RVs] at h; subst h; simp [RVs]
  | y :: xs, _, n, h => by
    cases n with
    | zero => exact h
    | succ n =>
      simp only [RVs] at h
      obtain ⟨w, r, rfl, h2, h3⟩ := h
      exact RVs.drop n h3
theorem RVs.rev {xs : List MV} {vs : List V} (h : RVs Z ρ H xs vs) : RVs Z ρ H xs.reverse vs.reverse := by
  induction xs generalizing vs with
  | nil => simp only [RVs] at h; subst h; simp [RVs]
  | cons x xs ih =>
    simp only [RVs] at h
    obtain ⟨v, r, rfl, h2, h3⟩ := h
    simp only [List.reverse_cons]
    exact (ih h3).append (RVs.one h2)
end

/-! ### the heaps -/
/-- what stands at an address -/
def RO (Z : Stat) (ρ : Rho) (H : Hp) : MO → Addr → Prop
  | .lst xs, a => ∃ vs, H a = some (.lst vs) ∧ RVs Z ρ H xs vs
  | .dic _, _ => False
  | .ins c fs, a => ∃ dx fs', H a = some (.ins (Z.ca c) dx fs') ∧ RVf Z ρ H fs fs'
structure HR (Z : Stat) (ρ : Rho) (h : MHp) (H : Hp) : Prop where
  ob : ∀ m o, h.get m = some o → ∃ a, ρ.nm m = some a ∧ RO Z ρ H o a
  lv : ∀ m, ρ.lv m ↔ ∃ o, h.get m = some o
  inj : ∀ m m' a, ρ.nm m = some a → ρ.nm m' = some a → m = m'
  dom : ∀ m a, ρ.nm m = some a → m < h.n ∧ (∃ o, H a = some o) ∧ ¬ ρ.hid a
  tot : ∀ m, m < h.n → ∃ a, ρ.nm m = some a
  hid : ∀ a, ρ.hid a → ∃ o, H a = some o
/-- the frame's slots -/
structure FR (Z : Stat) (ρ : Rho) (H : Hp) (fr : Fr) (σ : L2.St) : Prop where
  len : fr.length = σ.length
  at_ : ∀ i v, fr.at i = some v → ∃ v', σ[i]? = some (some v') ∧ RV Z ρ H v v'
end G
set_option Elab.async false
set_option linter.all false
set_option maxRecDepth 100000
set_option maxHeartbeats 1000000
/-! What stores do to the relation. -/
namespace G
open PySem PySem.Spec PyProof.Rows L2
section
variable {Z : Stat} {ρ ρ' : Rho} {H H' : Hp} {h : MHp}
theorem Ext.fresh {p : Addr} {o : HO} (hp : H p = none) : Ext ρ H ρ (upd H p o) :=
  ⟨fun _ _ e => e, fun a u e _ => by rw [upd_ne (ne_of_none e hp)]; exact e, fun a u e k => ⟨by rw [upd_ne (ne_of_none e hp)]; exact e, k⟩, fun a u k e => ⟨by rw [upd_ne (ne_of_none e hp)]; exact e, k⟩⟩
theorem RO.ext0 {o : MO} {a : Addr} (e : Ext0 ρ H ρ' H') (k : H' a = H a) (r : RO Z ρ H o a) : RO Z ρ' H' o a := by
  cases o with
  | lst xs =>
    obtain ⟨vs, h1, h2⟩ := r
    exact ⟨vs, by rw [k]; exact h1, h2.ext0 e⟩
  | dic kvs => exact r.elim
  | ins c fs =>
    obtain ⟨dx, fs', h1, h2⟩ := r
    exact ⟨dx, fs', by rw [k]; exact h1, h2.ext0 e⟩
theorem RO.ext {o : MO} {a : Addr} (e : Ext ρ H ρ' H') (k : H' a = H a) (r : RO Z ρ H o a) : RO Z ρ' H' o a := r.ext0 e.e0 k
theorem RO.some {o : MO} {a : Addr} (r : RO Z ρ H o a) : ∃ u, H a = some u ∧ ¬ Imm u := by
  cases o with
  | lst xs => obtain ⟨vs, h1, _⟩ := r; exact ⟨_, h1, fun z => z⟩
  | dic kvs => exact r.elim
  | ins c fs => obtain ⟨dx, fs', h1, _⟩ := r; exact ⟨_, h1, fun z => z⟩
theorem HR.lt {m : Nat} {a : Addr} (r : HR Z ρ h H) (e : ρ.nm m = some a) : m < h.n := (r.dom m a e).1
theorem HR.clear {p : Addr} (r : HR Z ρ h H) (hp : H p = none) (m : Nat) : ρ.nm m ≠ some p := fun e => by
  obtain ⟨o, q⟩ := (r.dom m p e).2.1
  rw [hp] at q
  cases q
theorem HR.nhid {p : Addr} (r : HR Z ρ h H) (hp : H p = none) : ¬ ρ.hid p := fun e => by
  obtain ⟨o, q⟩ := r.hid p e
  rw [hp] at q
  cases q
theorem HR.nl {p : Addr} (r : HR Z ρ h H) (hp : H p = none) : NL ρ p := ⟨r.nhid hp, fun m e => absurd e (r.clear hp m)⟩
theorem HR.lvn {m : Nat} (r : HR Z ρ h H) (l : ρ.lv m) : m < h.n := let ⟨_, e⟩ := (r.lv m).mp l; MHp.get_lt e
theorem RO.fresh {o : MO} {a p : Addr} {u : HO} (e : Ext ρ H ρ' (upd H p u)) (hp : H p = none) (r : RO Z ρ H o a) : RO Z ρ' (upd H p u) o a := by
  cases o with
  | lst xs => obtain ⟨vs, h1, h2⟩ := r; exact ⟨vs, by rw [upd_ne (ne_of_none h1 hp)]; exact h1, h2.ext e⟩
  | dic kvs => exact r.elim
  | ins c fs => obtain ⟨dx, fs', h1, h2⟩ := r; exact ⟨dx, fs', by rw [upd_ne (ne_of_none h1 hp)]; exact h1, h2.ext e⟩
/-- something laid that the small heap does not know -/
theorem HR.fresh {p : Addr} {u : HO} (r : HR Z ρ h H) (hp : H p = none) : HR Z ρ h (upd H p u) :=
  ⟨fun m o e => let ⟨a, h1, h2⟩ := r.ob m o e; ⟨a, h1, h2.fresh (Ext.fresh hp) hp⟩, r.lv, r.inj, fun m a e => let ⟨h1, ⟨o, h2⟩, h3⟩ := r.dom m a e; ⟨h1, ⟨o, by rw [upd_ne (ne_of_none h2 hp)]; exact h2⟩, h3⟩, r.tot,
    fun a k => let ⟨o, h2⟩ := r.hid a k; ⟨o, by rw [upd_ne (ne_of_none h2 hp)]; exact h2⟩⟩
def rhoAdd (ρ : Rho) (n : Nat) (p : Addr) : Rho := ⟨fun m => if m = n then some p else ρ.nm m, fun m => m = n ∨ ρ.lv m, ρ.hid⟩
theorem rhoAdd_same {n : Nat} {p : Addr} : (rhoAdd ρ n p).nm n = some p := if_pos rfl
theorem rhoAdd_ne {n m : Nat} {p : Addr} (h : m ≠ n) : (rhoAdd ρ n p).nm m = ρ.nm m := if_neg h
theorem HR.nl_add {p a : Addr} {o : HO} (r : HR Z ρ h H) (hp : H p = none) (e : H a = some o) (k : NL ρ a) : NL (rhoAdd ρ h.n p) a := by
  refine ⟨k.1, fun m e2 l => ?_⟩
  by_cases hm : m = h.n
  · subst hm
    rw [rhoAdd_same] at e2
    cases e2
    rw [hp] at e
    cases e
  · rw [rhoAdd_ne hm] at e2
    rcases l with l | l
    · exact hm l
    · exact k.2 m e2 l
theorem HR.ext_add {p : Addr} {u : HO} (r : HR Z ρ h H) (hp : H p = none) : Ext ρ H (rhoAdd ρ h.n p) (upd H p u) :=
  ⟨fun m a e => by rw [rhoAdd_ne (Nat.ne_of_lt (r.lt e))]; exact e, fun a o e _ => by rw [upd_ne (ne_of_none e hp)]; exact e,
    fun a o e k => ⟨by rw [upd_ne (ne_of_none e hp)]; exact e, r.nl_add hp e k⟩, fun a o k e => ⟨by rw [upd_ne (ne_of_none e hp)]; exact e, k⟩⟩
/-- a new object of ours -/
theorem HR.push {p : Addr} {u : HO} {o : MO} (r : HR Z ρ h H) (hp : H p = none) (new : RO Z (rhoAdd ρ h.n p) (upd H p u) o p) : HR Z (rhoAdd ρ h.n p) (h.push o) (upd H p u) := by
  refine ⟨fun m o' e => ?_, fun m => ?_, fun m m' a e1 e2 => ?_, fun m a e => ?_, fun m hm => ?_, fun a k => ?_⟩
  · rw [MHp.get_push] at e
    by_cases hm : m = h.n
    · rw [if_pos hm] at e
      cases e
      exact ⟨p, by rw [hm]; exact rhoAdd_same, new⟩
    · rw [if_neg hm] at e
      obtain ⟨a, h1, h2⟩ := r.ob m o' e
      exact ⟨a, by rw [rhoAdd_ne hm]; exact h1, h2.fresh (r.ext_add hp) hp⟩
  · rw [MHp.get_push]
    by_cases hm : m = h.n
    · rw [if_pos hm]
      exact ⟨fun _ => ⟨_, rfl⟩, fun _ => .inl hm⟩
    · rw [if_neg hm]
      exact ⟨fun l => l.elim (fun z => absurd z hm) (r.lv m).mp, fun z => .inr ((r.lv m).mpr z)⟩
  · by_cases h1 : m = h.n
    · by_cases h2 : m' = h.n
      · rw [h1, h2]
      · rw [h1, rhoAdd_same] at e1
        rw [rhoAdd_ne h2] at e2
        cases e1
        exact absurd e2 (r.clear hp m')
    · by_cases h2 : m' = h.n
      · rw [rhoAdd_ne h1] at e1
        rw [h2, rhoAdd_same] at e2
        cases e2
        exact absurd e1 (r.clear hp m)
      · rw [rhoAdd_ne h1] at e1
        rw [rhoAdd_ne h2] at e2
        exact r.inj m m' a e1 e2
  · by_cases h1 : m = h.n
    · subst h1
      rw [rhoAdd_same] at e
      cases e
      exact ⟨Nat.lt_succ_self _, ⟨u, upd_same⟩, r.nhid hp⟩
    · rw [rhoAdd_ne h1] at e
      obtain ⟨h2, ⟨o2, h3⟩, h4⟩ := r.dom m a e
      exact ⟨Nat.lt_succ_of_lt h2, ⟨o2, by rw [upd_ne (ne_of_none h3 hp)]; exact h3⟩, h4⟩
  · by_cases h1 : m = h.n
    · exact ⟨p, by rw [h1]; exact rhoAdd_same⟩
    · rw [rhoAdd_ne h1]
      have : m < h.n + 1 := hm
      exact r.tot m (by omega)
  · obtain ⟨o2, h3⟩ := r.hid a k
    exact ⟨o2, by rw [upd_ne (ne_of_none h3 hp)]; exact h3⟩
theorem HR.setExt {m : Nat} {a : Addr} {u : HO} {o : MO} (r : HR Z ρ h H) (hm : h.get m = some o) (ha : ρ.nm m = some a) : Ext ρ H ρ (upd H a u) := by
  have hlv : ρ.lv m := (r.lv m).mpr ⟨o, hm⟩
  have hn : ∀ v, H a = some v → ¬ Imm v := fun v e => by
    obtain ⟨b, h1, h2⟩ := r.ob m o hm
    rw [ha] at h1
    cases h1
    obtain ⟨w, h3, h4⟩ := h2.some
    rw [e] at h3
    cases h3
    exact h4
  exact ⟨fun _ _ e => e, fun b v e i => by
    by_cases hb : b = a
    · rw [hb] at e; exact absurd i (hn v e)
    · rw [upd_ne hb]; exact e, fun b v e k => by
    by_cases hb : b = a
    · subst hb; exact absurd hlv (k.2 m ha)
    · exact ⟨by rw [upd_ne hb]; exact e, k⟩, fun b v k e => by
    by_cases hb : b = a
    · subst hb; exact absurd k (r.dom m b ha).2.2
    · exact ⟨by rw [upd_ne hb]; exact e, k⟩⟩
/-- an object of ours changed -/
theorem HR.set {m : Nat} {a : Addr} {u : HO} {o o' : MO} (r : HR Z ρ h H) (hm : h.get m = some o) (ha : ρ.nm m = some a) (new : RO Z ρ (upd H a u) o' a) :
    HR Z ρ (h.set m o') (upd H a u) ∧ Ext ρ H ρ (upd H a u) := by
  have ex : Ext ρ H ρ (upd H a u) := r.setExt hm ha
  have hlv : ρ.lv m := (r.lv m).mpr ⟨o, hm⟩
  refine ⟨⟨fun k o2 e => ?_, fun k => ?_, r.inj, fun k b e => ?_, r.tot, fun b k => ?_⟩, ex⟩
  · rw [MHp.get_set _ _ (MHp.get_lt hm)] at e
    by_cases hk : k = m
    · rw [if_pos hk] at e
      cases e
      exact ⟨a, by rw [hk]; exact ha, new⟩
    · rw [if_neg hk] at e
      obtain ⟨b, h1, h2⟩ := r.ob k o2 e
      have hb : b ≠ a := fun z => hk (r.inj k m a (z ▸ h1) ha)
      exact ⟨b, h1, h2.ext ex (upd_ne hb)⟩
  · rw [MHp.get_set _ _ (MHp.get_lt hm)]
    by_cases hk : k = m
    · rw [if_pos hk, hk]
      exact ⟨fun _ => ⟨_, rfl⟩, fun _ => hlv⟩
    · rw [if_neg hk]
      exact r.lv k
  · obtain ⟨h1, ⟨o2, h2⟩, h3⟩ := r.dom k b e
    refine ⟨h1, ?_, h3⟩
    by_cases hb : b = a
    · exact ⟨u, by rw [hb]; exact upd_same⟩
    · exact ⟨o2, by rw [upd_ne hb]; exact h2⟩
  · obtain ⟨o2, h2⟩ := r.hid b k
    by_cases hb : b = a
    · exact ⟨u, by rw [hb]; exact upd_same⟩
    · exact ⟨o2, by rw [upd_ne hb]; exact h2⟩
def rhoDel (ρ : Rho) (n : Nat) : Rho := ⟨ρ.nm, fun m => m ≠ n ∧ ρ.lv m, ρ.hid⟩
/-- an object of ours is never changed again -/
theorem HR.del {m : Nat} {a : Addr} {o : MO} (r : HR Z ρ h H) (hm : h.get m = some o) (ha : ρ.nm m = some a) : HR Z (rhoDel ρ m) (h.del m) H ∧ Ext ρ H (rhoDel ρ m) H ∧ NL (rhoDel ρ m) a := by
  have ex : Ext ρ H (rhoDel ρ m) H := ⟨fun _ _ e => e, fun _ _ e _ => e, fun b v e k => ⟨e, k.1, fun j e2 l => k.2 j e2 l.2⟩, fun b v k e => ⟨e, k⟩⟩
  refine ⟨⟨fun k o2 e => ?_, fun k => ?_, r.inj, fun k b e => r.dom k b e, r.tot, r.hid⟩, ex, (r.dom m a ha).2.2, fun j e l => l.1 (r.inj j m a e ha)⟩
  · rw [MHp.get_del _ (MHp.get_lt hm)] at e
    by_cases hk : k = m
    · rw [if_pos hk] at e; cases e
    · rw [if_neg hk] at e
      obtain ⟨b, h1, h2⟩ := r.ob k o2 e
      exact ⟨b, h1, h2.ext ex rfl⟩
  · rw [MHp.get_del _ (MHp.get_lt hm)]
    by_cases hk : k = m
    · rw [if_pos hk]
      exact ⟨fun l => absurd hk l.1, fun ⟨_, z⟩ => (by cases z)⟩
    · rw [if_neg hk]
      exact ⟨fun l => (r.lv k).mp l.2, fun z => ⟨hk, (r.lv k).mpr z⟩⟩
/-- another mark -/
theorem HR.mark (r : HR Z ρ h H) {h' : MHp} (hg : ∀ a, h'.get a = h.get a) (hn : h'.n = h.n) : HR Z ρ h' H :=
  ⟨fun m o e => r.ob m o (by rw [← hg]; exact e), fun m => by rw [hg]; exact r.lv m, r.inj, fun m a e => by rw [hn]; exact r.dom m a e, fun m e => r.tot m (by rw [← hn]; exact e), r.hid⟩
/-! ### an object that nobody sees -/
def rhoHide (ρ : Rho) (D : Addr) : Rho := ⟨ρ.nm, ρ.lv, fun a => a = D ∨ ρ.hid a⟩
def rhoShow (ρ : Rho) (D : Addr) : Rho := ⟨ρ.nm, ρ.lv, fun a => a ≠ D ∧ ρ.hid a⟩
theorem HR.hide {D : Addr} {u : HO} (r : HR Z ρ h H) (hD : H D = none) : HR Z (rhoHide ρ D) h (upd H D u) ∧ Ext ρ H (rhoHide ρ D) (upd H D u) := by
  have ex : Ext ρ H (rhoHide ρ D) (upd H D u) := ⟨fun _ _ e => e, fun a o e _ => by rw [upd_ne (ne_of_none e hD)]; exact e, fun a o e k => ⟨by rw [upd_ne (ne_of_none e hD)]; exact e, fun z => z.elim (fun z => ne_of_none e hD z) k.1, k.2⟩,
    fun a o k e => ⟨by rw [upd_ne (ne_of_none e hD)]; exact e, .inr k⟩⟩
  refine ⟨⟨fun m o e => ?_, r.lv, r.inj, fun m a e => ?_, r.tot, fun a k => ?_⟩, ex⟩
  · obtain ⟨a, h1, h2⟩ := r.ob m o e
    obtain ⟨o2, h3⟩ := (r.dom m a h1).2.1
    exact ⟨a, h1, h2.ext ex (upd_ne (ne_of_none h3 hD))⟩
  · obtain ⟨h1, ⟨o2, h2⟩, h3⟩ := r.dom m a e
    exact ⟨h1, ⟨o2, by rw [upd_ne (ne_of_none h2 hD)]; exact h2⟩, fun z => z.elim (fun z => ne_of_none h2 hD z) h3⟩
  · rcases k with rfl | k
    · exact ⟨u, upd_same⟩
    · obtain ⟨o2, h2⟩ := r.hid a k
      exact ⟨o2, by rw [upd_ne (ne_of_none h2 hD)]; exact h2⟩
theorem Ext0.hidSet {D : Addr} {u : HO} {o : HO} (hd : ρ.hid D) (hD : H D = some o) (ho : ¬ Imm o) : Ext0 ρ H ρ (upd H D u) := by
  refine ⟨fun _ _ e => e, fun a v e i => ?_, fun a v e k => ?_⟩
  · by_cases hb : a = D
    · rw [hb, hD] at e; cases e; exact absurd i ho
    · rw [upd_ne hb]; exact e
  · by_cases hb : a = D
    · rw [hb] at k; exact absurd hd k.1
    · exact ⟨by rw [upd_ne hb]; exact e, k⟩
theorem HR.hidSet {D : Addr} {u : HO} {o : HO} (r : HR Z ρ h H) (hd : ρ.hid D) (hD : H D = some o) (ho : ¬ Imm o) : HR Z ρ h (upd H D u) := by
  have e0 : Ext0 ρ H ρ (upd H D u) := Ext0.hidSet hd hD ho
  have ne : ∀ m a, ρ.nm m = some a → a ≠ D := fun m a e z => (r.dom m a e).2.2 (z ▸ hd)
  refine ⟨fun m o e => ?_, r.lv, r.inj, fun m a e => ?_, r.tot, fun a k => ?_⟩
  · obtain ⟨a, h1, h2⟩ := r.ob m o e
    exact ⟨a, h1, h2.ext0 e0 (upd_ne (ne m a h1))⟩
  · obtain ⟨h1, ⟨o2, h2⟩, h3⟩ := r.dom m a e
    exact ⟨h1, ⟨o2, by rw [upd_ne (ne m a e)]; exact h2⟩, h3⟩
  · by_cases hb : a = D
    · exact ⟨u, by rw [hb]; exact upd_same⟩
    · obtain ⟨o2, h2⟩ := r.hid a k
      exact ⟨o2, by rw [upd_ne hb]; exact h2⟩
/-- .. seen from before it stood there -/
theorem Ext.hidSet {ρ1 : Rho} {H1 : Hp} {D : Addr} {u : HO} (e : Ext ρ1 H1 ρ H) (hD : H1 D = none) : Ext ρ1 H1 ρ (upd H D u) :=
  ⟨e.ro, fun a o q i => by rw [upd_ne (ne_of_none q hD)]; exact e.im a o q i, fun a o q k => by rw [upd_ne (ne_of_none q hD)]; exact e.fz a o q k, fun a o k q => by rw [upd_ne (ne_of_none q hD)]; exact e.hd a o k q⟩
theorem Ext0.show {D : Addr} : Ext0 ρ H (rhoShow ρ D) H := ⟨fun _ _ e => e, fun _ _ e _ => e, fun _ _ e k => ⟨e, fun z => k.1 z.2, k.2⟩⟩
theorem Ext.show {ρ1 : Rho} {H1 : Hp} {D : Addr} (e : Ext ρ1 H1 ρ H) (hD : H1 D = none) : Ext ρ1 H1 (rhoShow ρ D) H :=
  ⟨e.ro, e.im, fun a o q k => let ⟨p, k2⟩ := e.fz a o q k; ⟨p, fun z => k2.1 z.2, k2.2⟩, fun a o k q => let ⟨p, k2⟩ := e.hd a o k q; ⟨p, ne_of_none q hD, k2⟩⟩
theorem HR.show {D : Addr} (r : HR Z ρ h H) : HR Z (rhoShow ρ D) h H :=
  ⟨fun m o e => let ⟨a, h1, h2⟩ := r.ob m o e; ⟨a, h1, h2.ext0 Ext0.show rfl⟩, r.lv, r.inj, fun m a e => let ⟨h1, h2, h3⟩ := r.dom m a e; ⟨h1, h2, fun z => h3 z.2⟩, r.tot, fun a k => r.hid a k.2⟩
theorem HR.nlShow {D : Addr} (r : HR Z ρ h H) (hd : ρ.hid D) : NL (rhoShow ρ D) D := ⟨fun z => z.1 rfl, fun m e => absurd hd (r.dom m D e).2.2⟩
/-- what nobody saw gets a name -/
theorem HR.name {ρ1 : Rho} {H1 : Hp} {p : Addr} {o : MO} (r : HR Z ρ h H) (hd : ρ.hid p) (e1 : Ext ρ1 H1 ρ H) (hp : H1 p = none) (new : RO Z ρ H o p) :
    HR Z (rhoAdd (rhoShow ρ p) h.n p) (h.push o) H ∧ Ext ρ1 H1 (rhoAdd (rhoShow ρ p) h.n p) H := by
  have nn : ∀ m, ρ.nm m ≠ some p := fun m e => (r.dom m p e).2.2 hd
  have ro : ∀ m a, ρ.nm m = some a → (rhoAdd (rhoShow ρ p) h.n p).nm m = some a := fun m a e => by rw [rhoAdd_ne (Nat.ne_of_lt (r.lt e))]; exact e
  have nl : ∀ a, NL ρ a → NL (rhoAdd (rhoShow ρ p) h.n p) a := fun a k => by
    refine ⟨fun z => k.1 z.2, fun m e2 l => ?_⟩
    by_cases hm : m = h.n
    · subst hm; rw [rhoAdd_same] at e2; cases e2; exact k.1 hd
    · rw [rhoAdd_ne hm] at e2; rcases l with l | l
      · exact hm l
      · exact k.2 m e2 l
  have e0 : Ext0 ρ H (rhoAdd (rhoShow ρ p) h.n p) H := ⟨ro, fun _ _ e _ => e, fun a _ e k => ⟨e, nl a k⟩⟩
  obtain ⟨u, hu, _⟩ := new.some
  refine ⟨⟨fun m o' e => ?_, fun m => ?_, fun m m' a e1 e2 => ?_, fun m a e => ?_, fun m hm => ?_, fun a k => r.hid a k.2⟩,
    ⟨fun m a e => ro m a (e1.ro m a e), e1.im, fun a o q k => let ⟨z1, z2⟩ := e1.fz a o q k; ⟨z1, nl a z2⟩, fun a o k q => let ⟨z1, z2⟩ := e1.hd a o k q; ⟨z1, ne_of_none q hp, z2⟩⟩⟩
  · rw [MHp.get_push] at e
    by_cases hm : m = h.n
    · rw [if_pos hm] at e
      cases e
      exact ⟨p, by rw [hm]; exact rhoAdd_same, new.ext0 e0 rfl⟩
    · rw [if_neg hm] at e
      obtain ⟨a, h1, h2⟩ := r.ob m o' e
      exact ⟨a, ro m a h1, h2.ext0 e0 rfl⟩
  · rw [MHp.get_push]
    by_cases hm : m = h.n
    · rw [if_pos hm]
      exact ⟨fun _ => ⟨_, rfl⟩, fun _ => .inl hm⟩
    · rw [if_neg hm]
      exact ⟨fun l => l.elim (fun z => absurd z hm) (r.lv m).mp, fun z => .inr ((r.lv m).mpr z)⟩
  · by_cases h1 : m = h.n
    · by_cases h2 : m' = h.n
      · rw [h1, h2]
      · rw [h1, rhoAdd_same] at e1
        rw [rhoAdd_ne h2] at e2
        cases e1
        exact absurd e2 (nn m')
    · by_cases h2 : m' = h.n
      · rw [rhoAdd_ne h1] at e1
        rw [h2, rhoAdd_same] at e2
        cases e2
        exact absurd e1 (nn m)
      · rw [rhoAdd_ne h1] at e1
        rw [rhoAdd_ne h2] at e2
        exact r.inj m m' a e1 e2
  · by_cases h1 : m = h.n
    · subst h1
      rw [rhoAdd_same] at e
      cases e
      exact ⟨Nat.lt_succ_self _, ⟨u, hu⟩, fun z => z.1 rfl⟩
    · rw [rhoAdd_ne h1] at e
      obtain ⟨h2, h3, h4⟩ := r.dom m a e
      exact ⟨Nat.lt_succ_of_lt h2, h3, fun z => h4 z.2⟩
  · by_cases h1 : m = h.n
    · exact ⟨p, by rw [h1]; exact rhoAdd_same⟩
    · rw [rhoAdd_ne h1]
      have : m < h.n + 1 := hm
      exact r.tot m (by omega)
end
end G
set_option Elab.async false
set_option linter.all false
set_option maxRecDepth 100000
set_option maxHeartbeats 1000000
/-! Readings: what the small interpreter says, as the layer's readings. -/
namespace G
open PySem PySem.Spec PyProof.Rows L2
/-- an error in flight -/
def ExcRel (Z : Stat) (ρ : Rho) (H : Hp) (e : MV) (cls : Value) (d : Option Addr) : Prop :=
  ∃ c fs dd fs', e = .exc c fs ∧ cls = .ref (Z.ca c) ∧ d = some dd ∧ H dd = some (.xd fs') ∧ RVf Z ρ H fs fs'
section
variable {Z : Stat} {W : WX} {ρ ρ' : Rho} {H H' : Hp} {σ : L2.St} {α β : Type}
theorem FR.ext {fr : Fr} (f : FR Z ρ H fr σ) (e : Ext ρ H ρ' H') : FR Z ρ' H' fr σ := ⟨f.len, fun i v q => let ⟨v', h1, h2⟩ := f.at_ i v q; ⟨v', h1, h2.ext e⟩⟩
/-- what is wanted of a result -/
def Post (Z : Stat) (W : WX) (ρ : Rho) (H : Hp) (σ : L2.St) (r : R α) (Q : α → MHp → Rho → Hp → Prop) : Prop := match r with
  | .ok a h' => ∀ ρ' H', Ext ρ H ρ' H' → HR Z ρ' h' H' → Q a h' ρ' H'
  | .ex e h' => ∀ ρ' H' cls d, Ext ρ H ρ' H' → HR Z ρ' h' H' → ExcRel Z ρ' H' e cls d → W cls d σ H'
  | .no => False
theorem Post.later {r : R α} {Q : α → MHp → Rho → Hp → Prop} (p : Post Z W ρ H σ r Q) (e : Ext ρ H ρ' H') : Post Z W ρ' H' σ r Q := by
  cases r with
  | ok a h' => exact fun ρ2 H2 e2 r2 => p ρ2 H2 (e.trans e2) r2
  | ex x h' => exact fun ρ2 H2 cls d e2 r2 => p ρ2 H2 cls d (e.trans e2) r2
  | no => exact p
theorem Post.bind {x : R α} {k : α → MHp → R β} {Q : β → MHp → Rho → Hp → Prop} (p : Post Z W ρ H σ (x.bind k) Q) : Post Z W ρ H σ x (fun a h1 ρ1 H1 => Post Z W ρ1 H1 σ (k a h1) Q) := by
  cases x with
  | ok a h' => exact fun ρ1 H1 e1 _ => Post.later p e1
  | ex e h' => exact p
  | no => exact p
theorem Post.imp {r : R α} {Q Q' : α → MHp → Rho → Hp → Prop} (p : Post Z W ρ H σ r Q) (f : ∀ a h' ρ' H', Ext ρ H ρ' H' → HR Z ρ' h' H' → Q a h' ρ' H' → Q' a h' ρ' H') : Post Z W ρ H σ r Q' := by
  cases r with
  | ok a h' => exact fun ρ1 H1 e1 r1 => f a h' ρ1 H1 e1 r1 (p ρ1 H1 e1 r1)
  | ex e h' => exact p
  | no => exact p
theorem Post.get {h : MHp} {x : Option α} {Q : α → MHp → Rho → Hp → Prop} (p : Post Z W ρ H σ (R.get x h) Q) : ∃ a, x = some a ∧ ∀ ρ' H', Ext ρ H ρ' H' → HR Z ρ' h H' → Q a h ρ' H' := by
  cases x with
  | some a => exact ⟨a, rfl, p⟩
  | none => exact p.elim
end
variable (Z : Stat) (W : WX) (D : Ds)
/-- an expression's reading -/
def tE (m : E) : TE := fun σ H Q => ∃ ρ fr h, FR Z ρ H fr σ ∧ HR Z ρ h H ∧ Post Z W ρ H σ (evE D m fr h) fun v _ ρ' H' => ∀ vv, RV Z ρ' H' v vv → Q vv H'
def tEs (m : Es) : TA := fun σ H Q => ∃ ρ fr h, FR Z ρ H fr σ ∧ HR Z ρ h H ∧ Post Z W ρ H σ (evEs D m fr h) fun vs _ ρ' H' => ∀ vvs, RVs Z ρ' H' vs vvs → Q vvs H'
def tTst (m : E) : TT := fun σ H Q => ∃ ρ fr h, FR Z ρ H fr σ ∧ HR Z ρ h H ∧ Post Z W ρ H σ (evTest D m fr h) fun b _ _ H' => Q b H'
section
variable {Z : Stat} {W : WX} {D : Ds} {X : Cx} {pos : Pos}
/-- a weaker reading -/
theorem PEw {e : Expr} {t t' : TE} (h : PE X e t) (i : ∀ σ H Q, t' σ H Q → t σ H Q) : PE X e t' := ⟨fun pins s σ H Q I q => h.run pins s σ H Q I (i _ _ _ q)⟩
theorem PTw {e : Expr} {t t' : TT} (h : PT X e t) (i : ∀ σ H Q, t' σ H Q → t σ H Q) : PT X e t' := ⟨fun pins s σ H Q I q => h.run pins s σ H Q I (i _ _ _ q)⟩
theorem PAw {e : List Expr} {t t' : TA} (h : PA X e t) (i : ∀ σ H Q, t' σ H Q → t σ H Q) : PA X e t' := ⟨fun pos pins s σ H Q I q => h.run pos pins s σ H Q I (i _ _ _ q)⟩
theorem PSw {e : Stmt} {t t' : TS} (h : PS X e t) (i : ∀ D σ H, t' D σ H → t D σ H) : PS X e t' := ⟨fun pins s σ H Q I q => h.run pins s σ H Q I (i _ _ _ q)⟩
/-- the same where the rule hangs on the case -/
theorem PEc {e : Expr} {t' : TE} (h : ∀ σ H Q, t' σ H Q → ∃ t, PE X e t ∧ t σ H Q) : PE X e t' := ⟨fun pins s σ H Q I q => let ⟨t, h1, h2⟩ := h σ H Q q; h1.run pins s σ H Q I h2⟩

theorem s_var {i : Nat} {x : Str} (hN : X.N[i]? = some x) (hv : Vis X.env.scope x) (hd : (x == ("__debug__" : Str)) = false) (hcd : (x == ("__classdict__" : Str)) = false) : PE X (.Name x pos) (tE Z W D (.var i)) := by
  refine PEw (pe_var hN hv hd hcd) fun σ H Q ⟨ρ, fr, h, F, R, P⟩ => ?_
  obtain ⟨v, e, p⟩ := Post.get P
  obtain ⟨v', h1, h2⟩ := F.at_ i v e
  exact ⟨v', h1, p ρ H Ext.refl R v' h2⟩
/-- a list is never changed from now on -/
theorem s_frz {i : Nat} {x : Str} (hN : X.N[i]? = some x) (hv : Vis X.env.scope x) (hd : (x == ("__debug__" : Str)) = false) (hcd : (x == ("__classdict__" : Str)) = false) : PE X (.Name x pos) (tE Z W D (.frz i)) := by
  refine PEw (pe_var hN hv hd hcd) fun σ H Q ⟨ρ, fr, h, F, R, P⟩ => ?_
  have P' : Post Z W ρ H σ (match fr.at i with
    | some (.ref a) => (match h.get a with
      | some (.lst xs) => G.R.ok (.frl xs) (h.del a)
      | _ => G.R.no)
    | _ => G.R.no) (fun v _ ρ' H' => ∀ vv, RV Z ρ' H' v vv → Q vv H') := P
  split at P'
  · rename_i m e
    split at P'
    · rename_i xs e2
      obtain ⟨v', h1, h2⟩ := F.at_ i _ e
      simp only [RV] at h2
      obtain ⟨a, rfl, ha⟩ := h2
      obtain ⟨b, hb, vs, h3, h4⟩ := R.ob m _ e2
      rw [ha] at hb
      cases hb
      obtain ⟨r2, e3, nl⟩ := R.del e2 ha
      refine ⟨_, h1, P' _ H e3 r2 _ ?_⟩
      simp only [RV]
      exact ⟨a, vs, rfl, ⟨h3, nl⟩, RVs.ext e3 _ _ h4⟩
    · exact P'.elim
  · exact P'.elim
theorem s_nope {e : Expr} : PE X e (tE Z W D .nope) := ⟨fun _ _ _ _ _ _ ⟨_, _, _, _, _, P⟩ => P.elim⟩
theorem s_int {i : Int} {j : Nat} : PE X (.Constant (.int i) j pos) (tE Z W D (.lit (.int i))) := by
  refine PEw pe_int fun σ H Q ⟨ρ, fr, h, F, R, P⟩ => ?_
  exact P ρ H Ext.refl R (.int i) (by simp only [RV])
theorem s_bl {b : Bool} {j : Nat} : PE X (.Constant (.bool b) j pos) (tE Z W D (.lit (.bl b))) := by
  refine PEw pe_bl fun σ H Q ⟨ρ, fr, h, F, R, P⟩ => ?_
  exact P ρ H Ext.refl R (.bl b) (by simp only [RV])
theorem s_non {j : Nat} : PE X (.Constant .none j pos) (tE Z W D (.lit .non)) := by
  refine PEw pe_non fun σ H Q ⟨ρ, fr, h, F, R, P⟩ => ?_
  exact P ρ H Ext.refl R .non (by simp only [RV])
theorem s_str {x : List Nat} {j : Nat} (hx : okS x = true) : PE X (.Constant (.str (S8 x)) j pos) (tE Z W D (.lit (.str x))) := by
  refine PEw pe_str fun σ H Q ⟨ρ, fr, h, F, R, P⟩ => ?_
  exact P ρ H Ext.refl R (.str (S8 x)) (by simp [RV, hx])

/-! ### argument lists, displays -/
theorem s_nil : PA X [] (tEs Z W D .nil) := by
  refine PAw pa_nil fun σ H Q ⟨ρ, fr, h, F, R, P⟩ => ?_
  exact P ρ H Ext.refl R [] (by simp only [RVs])
theorem s_cons {e : Expr} {es : List Expr} {m : E} {ms : Es} (he : PE X e (tE Z W D m)) (hr : PA X es (tEs Z W D ms)) (hs : starEach (e :: es) X.env = (false, eval e X.env) :: starEach es X.env) : PA X (e :: es) (tEs Z W D (.cons m ms)) := by
  refine PAw (pa_cons he hr hs) fun σ H Q ⟨ρ, fr, h, F, R, P⟩ => ⟨ρ, fr, h, F, R, ?_⟩
  refine (Post.bind P).imp fun v h1 ρ1 H1 e1 r1 p1 vv rv => ⟨ρ1, fr, h1, F.ext e1, r1, ?_⟩
  refine (Post.bind p1).imp fun vs h2 ρ2 H2 e2 r2 p2 vvs rvs => ?_
  exact p2 ρ2 H2 Ext.refl r2 (vv :: vvs) (by simp only [RVs]; exact ⟨vv, vvs, rfl, rv.ext e2, rvs⟩)
theorem line_eq : lineN = sizeLine := by rw [sizeLine_eq]; rfl
theorem s_tup {es : List Expr} {ms : Es} {k : Nat} (h : PA X es (tEs Z W D ms)) : PE X (.Tuple es k pos) (tE Z W D (.tup ms)) := by
  refine PEw (pe_tup h) fun σ H Q ⟨ρ, fr, h, F, R, P⟩ => ⟨ρ, fr, h, F, R, ?_⟩
  refine (Post.bind P).imp fun vs h1 ρ1 H1 e1 r1 p1 vvs rvs => ?_
  by_cases hl : vs.length ≤ lineN
  · rw [if_pos hl] at p1
    refine ⟨by rw [← rvs.length, ← line_eq]; exact hl, fun p hp => ?_⟩
    refine p1 ρ1 (upd H1 p (.tup vvs)) (Ext.fresh hp) (r1.fresh hp) (.ref p) ?_
    simp only [RV]
    exact ⟨p, vvs, rfl, .inl upd_same, rvs.ext (Ext.fresh hp)⟩
  · rw [if_neg hl] at p1
    exact p1.elim
/-- a new list -/
theorem post_newL {ρ : Rho} {H : Hp} {σ : L2.St} {vs : List MV} {vvs : List V} {h : MHp} {Q : VK} (R : HR Z ρ h H) (rvs : RVs Z ρ H vs vvs) {z : Bool} (p : Post Z W ρ H σ (newL z vs h) fun v _ ρ' H' => ∀ vv, RV Z ρ' H' v vv → Q vv H') :
    vvs.length ≤ sizeLine ∧ ∀ p, H p = none → Q (.ref p) (upd H p (.lst vvs)) := by
  unfold newL at p
  by_cases hl : vs.length ≤ lineN
  · rw [if_pos hl] at p
    refine ⟨by rw [← rvs.length, ← line_eq]; exact hl, fun q hq => ?_⟩
    cases z with
    | true =>
      refine p ρ (upd H q (.lst vvs)) (Ext.fresh hq) (R.fresh hq) (.ref q) ?_
      simp only [RV]
      exact ⟨q, vvs, rfl, ⟨upd_same, R.nl hq⟩, rvs.ext (Ext.fresh hq)⟩
    | false =>
      refine p (rhoAdd ρ h.n q) (upd H q (.lst vvs)) (R.ext_add hq) (R.push hq ⟨vvs, upd_same, rvs.ext (R.ext_add hq)⟩) (.ref q) ?_
      simp only [RV]
      exact ⟨q, rfl, rhoAdd_same⟩
  · rw [if_neg hl] at p
    exact p.elim
theorem s_lst {es : List Expr} {ms : Es} {z : Bool} (h : PA X es (tEs Z W D ms)) : PE X (.List es pos) (tE Z W D (.lst z ms)) := by
  refine PEw (pe_lst h) fun σ H Q ⟨ρ, fr, h, F, R, P⟩ => ⟨ρ, fr, h, F, R, ?_⟩
  exact (Post.bind P).imp fun vs h1 ρ1 H1 e1 r1 p1 vvs rvs => post_newL r1 rvs p1
end
end G
set_option Elab.async false
set_option linter.all false
set_option maxRecDepth 100000
set_option maxHeartbeats 1000000
/-! Operators, comparisons, tests. -/
namespace G
open PySem PySem.Spec PyProof.Rows L2
section
variable {Z : Stat} {W : WX} {D : Ds} {X : Cx} {pos : Pos} {ρ ρ' : Rho} {H H' : Hp} {σ : L2.St} {h : MHp}
theorem S8_len (s : List Nat) : (S8 s).length = s.length := by unfold S8 Str.length; simp
theorem S8_append (s t : List Nat) : S8 s ++ S8 t = S8 (s ++ t) := by
  show (⟨s.toArray ++ t.toArray⟩ : Str) = ⟨(s ++ t).toArray⟩
  simp
theorem S8_inj {s t : List Nat} (e : S8 s = S8 t) : s = t := by
  unfold S8 at e
  injection e with e
  simpa using e
theorem okS_len {s : List Nat} (e : okS s = true) : s.length ≤ lineN := by unfold okS at e; simp at e; exact e.1
theorem okS_sz {s : List Nat} (e : okS s = true) : (S8 s).length ≤ sizeLine := by rw [S8_len, ← line_eq]; exact okS_len e
theorem okS_append {s t : List Nat} (e : okS s = true) (f : okS t = true) (l : s.length + t.length ≤ lineN) : okS (s ++ t) = true := by
  unfold okS at e f ⊢
  simp only [Bool.and_eq_true, decide_eq_true_eq, List.all_eq_true, List.length_append, List.mem_append] at e f ⊢
  exact ⟨l, fun c hc => hc.elim (e.2 c) (f.2 c)⟩
theorem RV.int {i : Int} {v : V} (r : RV Z ρ H (.int i) v) : v = .int i := by simpa only [RV] using r
theorem RV.bl {i : Bool} {v : V} (r : RV Z ρ H (.bl i) v) : v = .bl i := by simpa only [RV] using r
theorem RV.str {s : List Nat} {v : V} (r : RV Z ρ H (.str s) v) : v = .str (S8 s) ∧ okS s = true := by simpa only [RV] using r
theorem RV.mkInt (i : Int) : RV Z ρ H (.int i) (.int i) := by simp only [RV]
theorem RV.mkBl (i : Bool) : RV Z ρ H (.bl i) (.bl i) := by simp only [RV]
theorem RV.mkNon : RV Z ρ H .non .non := by simp only [RV]
theorem RV.mkStr {s : List Nat} (k : okS s = true) : RV Z ρ H (.str s) (.str (S8 s)) := by simp [RV, k]
theorem RV.refAt {m : Nat} {v : V} (r : RV Z ρ H (.ref m) v) : ∃ a, v = .ref a ∧ ρ.nm m = some a := by simpa only [RV] using r
theorem RV.tupAt {xs : List MV} {v : V} (r : RV Z ρ H (.tup xs) v) : ∃ a vs, v = .ref a ∧ TupAt Z.K H a vs ∧ RVs Z ρ H xs vs := by simpa only [RV] using r
theorem RV.ownAt {xs : List MV} {v : V} (r : RV Z ρ H (.frl xs) v) : ∃ a vs, v = .ref a ∧ (H a = some (.lst vs) ∧ NL ρ a) ∧ RVs Z ρ H xs vs := by simpa only [RV] using r
theorem RV.frlAt {xs : List MV} {v : V} (r : RV Z ρ H (.frl xs) v) : ∃ a vs, v = .ref a ∧ FrlAt Z.K ρ H a vs ∧ RVs Z ρ H xs vs := let ⟨a, vs, h1, h2, h3⟩ := r.ownAt; ⟨a, vs, h1, .inl h2, h3⟩
theorem RV.wrlAt {xs : List MV} {v : V} (r : RV Z ρ H (.wrl xs) v) : ∃ a vs, v = .ref a ∧ FrlAt Z.K ρ H a vs ∧ RVs Z ρ H xs vs := by simpa only [RV] using r
theorem HR.lst {m : Nat} {xs : List MV} {v : V} (R : HR Z ρ h H) (e : h.get m = some (.lst xs)) (r : RV Z ρ H (.ref m) v) : ∃ a vs, v = .ref a ∧ ρ.nm m = some a ∧ H a = some (.lst vs) ∧ RVs Z ρ H xs vs := by
  obtain ⟨a, rfl, ha⟩ := r.refAt
  obtain ⟨b, hb, hs⟩ := R.ob m _ e
  rw [ha] at hb
  cases hb
  obtain ⟨vs, h1, h2⟩ := hs
  exact ⟨a, vs, rfl, ha, h1, h2⟩
/-- the items of a list, a tuple, as the layer reads them -/
theorem seq_of {v : MV} {vv : V} {xs : List MV} (R : HR Z ρ h H) (r : RV Z ρ H v vv) (e : seqOf v h = some xs) : ∃ a vs, vv = .ref a ∧ (SqL Z.K H a vs ∨ SqT Z.K H a vs) ∧ RVs Z ρ H xs vs := by
  cases v with
  | tup ys =>
    cases (Option.some.inj e)
    obtain ⟨a, vs, h1, h2, h3⟩ := r.tupAt
    exact ⟨a, vs, h1, .inr h2.sq, h3⟩
  | frl ys =>
    cases (Option.some.inj e)
    obtain ⟨a, vs, h1, h2, h3⟩ := r.frlAt
    exact ⟨a, vs, h1, .inl h2.sq, h3⟩
  | wrl ys =>
    cases (Option.some.inj e)
    obtain ⟨a, vs, h1, h2, h3⟩ := r.wrlAt
    exact ⟨a, vs, h1, .inl h2.sq, h3⟩
  | ref m =>
    unfold seqOf at e
    dsimp only at e
    cases q : h.get m with
    | none => rw [q] at e; cases e
    | some o =>
      rw [q] at e
      cases o with
      | lst ys =>
        cases (Option.some.inj e)
        obtain ⟨a, vs, h1, _, h2, h3⟩ := R.lst q r
        exact ⟨a, vs, h1, .inl (SqL.of h2), h3⟩
      | _ => cases e
  | _ => cases e
theorem list_of {v : MV} {vv : V} {xs : List MV} (R : HR Z ρ h H) (r : RV Z ρ H v vv) (e : listOf v h = some xs) : ∃ a vs, vv = .ref a ∧ SqL Z.K H a vs ∧ RVs Z ρ H xs vs := by
  cases v with
  | frl ys =>
    cases (Option.some.inj e)
    obtain ⟨a, vs, h1, h2, h3⟩ := r.frlAt
    exact ⟨a, vs, h1, h2.sq, h3⟩
  | wrl ys =>
    cases (Option.some.inj e)
    obtain ⟨a, vs, h1, h2, h3⟩ := r.wrlAt
    exact ⟨a, vs, h1, h2.sq, h3⟩
  | ref m =>
    unfold listOf at e
    dsimp only at e
    cases q : h.get m with
    | none => rw [q] at e; cases e
    | some o =>
      rw [q] at e
      cases o with
      | lst ys =>
        cases (Option.some.inj e)
        obtain ⟨a, vs, h1, _, h2, h3⟩ := R.lst q r
        exact ⟨a, vs, h1, SqL.of h2, h3⟩
      | _ => cases e
  | _ => cases e
theorem RVs.isEmpty {xs : List MV} {vs : List V} (r : RVs Z ρ H xs vs) : vs.isEmpty = xs.isEmpty := by
  have := r.length
  cases xs <;> cases vs <;> simp_all
/-- truth -/
theorem tru_of {v : MV} {vv : V} {b : Bool} (R : HR Z ρ h H) (r : RV Z ρ H v vv) (e : truM v h = some b) : TruV Z.K vv H b := by
  cases v with
  | non => rw [show vv = .non by simpa only [RV] using r]; exact (Option.some.inj e).symm
  | bl c => rw [r.bl]; exact (Option.some.inj e).symm
  | int i => rw [r.int]; exact (Option.some.inj e).symm
  | str s =>
    obtain ⟨rfl, k⟩ := r.str
    refine ⟨okS_sz k, ?_⟩
    rw [S8_len, ← Option.some.inj e]
    cases s <;> simp
    rename_i a l
    have : ((l.length : Int) + 1 == 0) = false := by simp; omega
    simp [this]
    try omega
  | tup xs =>
    obtain ⟨a, vs, rfl, h2, h3⟩ := r.tupAt
    exact .inr (.inl ⟨vs, h2.sq, by rw [h3.isEmpty]; exact (Option.some.inj e).symm⟩)
  | frl xs =>
    obtain ⟨a, vs, rfl, h2, h3⟩ := r.frlAt
    exact .inl ⟨vs, h2.sq, by rw [h3.isEmpty]; exact (Option.some.inj e).symm⟩
  | wrl xs =>
    obtain ⟨a, vs, rfl, h2, h3⟩ := r.wrlAt
    exact .inl ⟨vs, h2.sq, by rw [h3.isEmpty]; exact (Option.some.inj e).symm⟩
  | ref m =>
    unfold truM at e
    dsimp only at e
    cases q : h.get m with
    | none => rw [q] at e; cases e
    | some o =>
      rw [q] at e
      cases o with
      | lst ys =>
        obtain ⟨a, vs, rfl, _, h2, h3⟩ := R.lst q r
        exact .inl ⟨vs, SqL.of h2, by rw [h3.isEmpty]; exact (Option.some.inj e).symm⟩
      | _ => cases e
  | _ => cases e
theorem own_of {v : MV} {vv : V} {xs : List MV} (R : HR Z ρ h H) (r : RV Z ρ H v vv) (e : ownOf v h = some xs) : ∃ a vs, vv = .ref a ∧ H a = some (.lst vs) ∧ RVs Z ρ H xs vs := by
  cases v with
  | frl ys =>
    cases (Option.some.inj e)
    obtain ⟨a, vs, h1, h2, h3⟩ := r.ownAt
    exact ⟨a, vs, h1, h2.1, h3⟩
  | ref m =>
    unfold ownOf at e
    dsimp only at e
    cases q : h.get m with
    | none => rw [q] at e; cases e
    | some o =>
      rw [q] at e
      cases o with
      | lst ys =>
        cases (Option.some.inj e)
        obtain ⟨a, vs, h1, _, h2, h3⟩ := R.lst q r
        exact ⟨a, vs, h1, h2, h3⟩
      | _ => cases e
  | _ => cases e
/-- a test, by its value's truth -/
theorem s_tst {e : Expr} {m : E} (hK : X.K = Z.K) (he : PE X e (tE Z W D m)) (hi : ∀ whole, isTrue e X.env whole = (do let v ← whole; standAt e.pos; holding [v] (truthy v))) : PT X e (tTst Z W D m) := by
  refine PTw (pt_truth he hi) fun σ H Q ⟨ρ, fr, h, F, R, P⟩ => ⟨ρ, fr, h, F, R, ?_⟩
  refine (Post.bind P).imp fun v h1 ρ1 H1 e1 r1 p1 vv rv => ?_
  obtain ⟨b, hb, p⟩ := Post.get p1
  exact ⟨b, hK ▸ tru_of r1 rv hb, p ρ1 H1 Ext.refl r1⟩
/-- the same of an expression that gives a bool -/
theorem s_tstB {e : Expr} {m : E} {t : TE} (he : PT X e (tTest t)) (hw : ∀ σ H Q, tE Z W D m σ H Q → t σ H Q) (hb : ∀ fr h v h1, evE D m fr h = .ok v h1 → ∃ b, v = .bl b) : PT X e (tTst Z W D m) := by
  refine PTw he fun σ H Q ⟨ρ, fr, h, F, R, P⟩ => hw σ H _ ⟨ρ, fr, h, F, R, ?_⟩
  have P' := Post.bind P
  cases q : evE D m fr h with
  | no => rw [q] at P'; exact P'.elim
  | ex x h1 => rw [q] at P'; exact P'
  | ok v h1 =>
    obtain ⟨b, rfl⟩ := hb fr h v h1 q
    rw [q] at P'
    intro ρ1 H1 e1 r1 vv rv
    obtain ⟨c, hc, p⟩ := Post.get (P' ρ1 H1 e1 r1)
    cases (Option.some.inj hc)
    exact ⟨b, rv.bl, p ρ1 H1 Ext.refl r1⟩
/-! ### operators -/
theorem s_op {o : Operator} {op : Bo} {z : Bool} {a b : Expr} {ma mb : E} {r : R2} (ho : OpR X (binaryOp o) r) (ha : PE X a (tE Z W D ma)) (hb : PE X b (tE Z W D mb))
    (hr : ∀ ρ H σ h v w vv ww Q, HR Z ρ h H → RV Z ρ H v vv → RV Z ρ H w ww → Post Z W ρ H σ (binM z op v w h) (fun u _ ρ' H' => ∀ uu, RV Z ρ' H' u uu → Q uu H') → r vv ww H Q) : PE X (.BinOp a o b pos) (tE Z W D (.bin z op ma mb)) := by
  refine PEw (pe_op ho ha hb) fun σ H Q ⟨ρ, fr, h, F, R, P⟩ => ⟨ρ, fr, h, F, R, ?_⟩
  refine (Post.bind P).imp fun v h1 ρ1 H1 e1 r1 p1 vv rv => ⟨ρ1, fr, h1, F.ext e1, r1, ?_⟩
  refine (Post.bind p1).imp fun w h2 ρ2 H2 e2 r2 p2 ww rw' => ?_
  exact hr ρ2 H2 σ h2 v w vv ww Q r2 (rv.ext e2) rw' p2
abbrev rAddS : R2 := fun x y H Q => ∃ i j, x = .str i ∧ y = .str j ∧ i.length + j.length ≤ sizeLine ∧ Q (.str (i ++ j)) H
def rAddM (K : PySem.W.Frag) : R2 := fun x y H Q => rI0 (fun i j => .int (i + j)) x y H Q ∨ (rAddS x y H Q ∨ (rCatT K x y H Q ∨ rCat x y H Q))
theorem op_addM : OpR X (binaryOp .Add) (rAddM X.K) := op_add.or (op_add_str.or (op_catT.or op_cat))
theorem s_add {a b : Expr} {ma mb : E} {z : Bool} (hK : X.K = Z.K) (ha : PE X a (tE Z W D ma)) (hb : PE X b (tE Z W D mb)) : PE X (.BinOp a .Add b pos) (tE Z W D (.bin z .add ma mb)) := by
  refine s_op op_addM ha hb fun ρ H σ h v w vv ww Q R rv rw' p => ?_
  rw [hK]
  cases v <;> cases w <;> first | exact False.elim p | skip
  case int.int i j => exact .inl ⟨i, j, rv.int, rw'.int, p ρ H Ext.refl R _ (RV.mkInt _)⟩
  case str.str s t =>
    have p' : Post Z W ρ H σ (if s.length + t.length ≤ lineN then G.R.ok (MV.str (s ++ t)) h else G.R.no) (fun u _ ρ' H' => ∀ uu, RV Z ρ' H' u uu → Q uu H') := p
    obtain ⟨rfl, k1⟩ := rv.str
    obtain ⟨rfl, k2⟩ := rw'.str
    by_cases hl : s.length + t.length ≤ lineN
    · rw [if_pos hl] at p'
      exact .inr (.inl ⟨_, _, rfl, rfl, by rw [S8_len, S8_len, ← line_eq]; exact hl, by rw [S8_append]; exact p' ρ H Ext.refl R _ (RV.mkStr (okS_append k1 k2 hl))⟩)
    · rw [if_neg hl] at p'
      exact p'.elim
  case tup.tup s t =>
    have p' : Post Z W ρ H σ (if s ≠ [] ∧ s.length + t.length ≤ lineN then G.R.ok (MV.tup (s ++ t)) h else G.R.no) (fun u _ ρ' H' => ∀ uu, RV Z ρ' H' u uu → Q uu H') := p
    obtain ⟨a1, xs, rfl, h1, r1⟩ := rv.tupAt
    obtain ⟨a2, ys, rfl, h2, r2⟩ := rw'.tupAt
    by_cases hl : s ≠ [] ∧ s.length + t.length ≤ lineN
    · rw [if_pos hl] at p'
      refine .inr (.inr (.inl ⟨a1, a2, xs, ys, rfl, rfl, h1.sq, h2.sq, fun z => hl.1 ?_, by rw [← r1.length, ← r2.length, ← line_eq]; exact hl.2, fun z => ?_, fun _ q hq => ?_⟩))
      · have := r1.length
        rw [z] at this
        exact List.length_eq_zero_iff.mp this
      · have e : t = [] := List.length_eq_zero_iff.mp (by rw [r2.length, z]; rfl)
        subst e
        refine p' ρ H Ext.refl R _ ?_
        rw [List.append_nil]
        exact rv
      · refine p' ρ _ (Ext.fresh hq) (R.fresh hq) _ ?_
        simp only [RV]
        exact ⟨q, _, rfl, .inl upd_same, (r1.append r2).ext (Ext.fresh hq)⟩
    · rw [if_neg hl] at p'
      exact p'.elim
  all_goals
    (have p' := p
     unfold binM at p'
     dsimp only at p'
     split at p'
     · rename_i xs ys g1 g2
       obtain ⟨a1, vs1, rfl, h1, r1⟩ := own_of R rv g1
       obtain ⟨a2, vs2, rfl, h2, r2⟩ := own_of R rw' g2
       obtain ⟨q1, q2⟩ := post_newL R (r1.append r2) p'
       exact .inr (.inr (.inr ⟨a1, a2, vs1, vs2, rfl, rfl, h1, h2, by rw [List.length_append] at q1; exact q1, q2⟩))
     · exact p'.elim)
/-- two numbers alone -/
theorem s_opI {o : Operator} {op : Bo} {z : Bool} {C : Int → Int → Prop} [dC : ∀ i j, Decidable (C i j)] {g : Int → Int → Int} {a b : Expr} {ma mb : E} (ho : OpR X (binaryOp o) (rI C fun i j => .int (g i j))) (ha : PE X a (tE Z W D ma)) (hb : PE X b (tE Z W D mb))
    (hg : ∀ (i j : Int) (h : MHp), binM z op (.int i) (.int j) h = if C i j then G.R.ok (.int (g i j)) h else G.R.no) (hn : ∀ v w h, (∀ i j, ¬ (v = .int i ∧ w = .int j)) → binM z op v w h = G.R.no) : PE X (.BinOp a o b pos) (tE Z W D (.bin z op ma mb)) := by
  refine s_op ho ha hb fun ρ H σ h v w vv ww Q R rv rw' p => ?_
  by_cases hi : ∃ i j, v = .int i ∧ w = .int j
  · obtain ⟨i, j, rfl, rfl⟩ := hi
    rw [hg] at p
    by_cases hc : C i j
    · rw [if_pos hc] at p
      exact ⟨i, j, rv.int, rw'.int, hc, p ρ H Ext.refl R _ (RV.mkInt _)⟩
    · rw [if_neg hc] at p
      exact p.elim
  · rw [hn v w h fun i j z => hi ⟨i, j, z⟩] at p
    exact p.elim
theorem s_sub {a b : Expr} {ma mb : E} {z : Bool} (ha : PE X a (tE Z W D ma)) (hb : PE X b (tE Z W D mb)) : PE X (.BinOp a .Sub b pos) (tE Z W D (.bin z .sub ma mb)) := by
  refine s_op op_sub ha hb fun ρ H σ h v w vv ww Q R rv rw' p => ?_
  cases v <;> cases w <;> first | exact False.elim p | skip
  case int.int i j => exact ⟨i, j, rv.int, rw'.int, p ρ H Ext.refl R _ (RV.mkInt _)⟩
theorem s_mul {a b : Expr} {ma mb : E} {z : Bool} (ha : PE X a (tE Z W D ma)) (hb : PE X b (tE Z W D mb)) : PE X (.BinOp a .Mult b pos) (tE Z W D (.bin z .mul ma mb)) :=
  s_opI (C := fun i j => (-(2 ^ 64) < i ∧ i < 2 ^ 64) ∨ (-(2 ^ 64) < j ∧ j < 2 ^ 64)) op_mul ha hb (fun _ _ _ => rfl) fun v w h n => by
    cases v <;> cases w <;> first | rfl | exact absurd ⟨rfl, rfl⟩ (n _ _)
theorem s_fdiv {a b : Expr} {ma mb : E} {z : Bool} (ha : PE X a (tE Z W D ma)) (hb : PE X b (tE Z W D mb)) : PE X (.BinOp a .FloorDiv b pos) (tE Z W D (.bin z .fdiv ma mb)) :=
  s_opI (C := fun i j => 0 < j ∧ j < 1073741824) op_fdiv ha hb (fun _ _ _ => rfl) fun v w h n => by
    cases v <;> cases w <;> first | rfl | exact absurd ⟨rfl, rfl⟩ (n _ _)
theorem s_mod {a b : Expr} {ma mb : E} {z : Bool} (ha : PE X a (tE Z W D ma)) (hb : PE X b (tE Z W D mb)) : PE X (.BinOp a .Mod b pos) (tE Z W D (.bin z .mod ma mb)) :=
  s_opI (C := fun i j => 0 < j) op_mod ha hb (fun _ _ _ => rfl) fun v w h n => by
    cases v <;> cases w <;> first | rfl | exact absurd ⟨rfl, rfl⟩ (n _ _)
theorem s_pow {a b : Expr} {ma mb : E} {z : Bool} (ha : PE X a (tE Z W D ma)) (hb : PE X b (tE Z W D mb)) : PE X (.BinOp a .Pow b pos) (tE Z W D (.bin z .pow ma mb)) :=
  s_opI (C := fun i j => 0 ≤ j ∧ j ≤ 1000000 ∧ i.natAbs < 2 ^ 64) op_pow ha hb (fun _ _ _ => rfl) fun v w h n => by
    cases v <;> cases w <;> first | rfl | exact absurd ⟨rfl, rfl⟩ (n _ _)
theorem s_neg {a : Expr} {ma : E} (ha : PE X a (tE Z W D ma)) : PE X (.UnaryOp .USub a pos) (tE Z W D (.neg ma)) := by
  refine PEw (pe_un un_neg ha) fun σ H Q ⟨ρ, fr, h, F, R, P⟩ => ⟨ρ, fr, h, F, R, ?_⟩
  refine (Post.bind P).imp fun v h1 ρ1 H1 e1 r1 p1 vv rv => ?_
  cases v <;> first | exact False.elim p1 | skip
  case int i => exact ⟨i, rv.int, p1 ρ1 H1 Ext.refl r1 _ (RV.mkInt _)⟩
end
end G
set_option Elab.async false
set_option linter.all false
set_option maxRecDepth 100000
set_option maxHeartbeats 1000000
/-! Comparisons. -/
namespace G
open PySem PySem.Spec PyProof.Rows L2
section
mutual
def pyOf : MV → PyData
  | .non => .none
  | .bl b => .bool b
  | .int i => .int i
  | .str s => .str (S8 s)
  | .tup xs => .tuple (pyOfs xs)
  | .frl xs => .list (pyOfs xs)
  | _ => .none
def pyOfs : List MV → List PyData
  | [] => []
  | x :: xs => pyOf x :: pyOfs xs
end
mutual
theorem depth_py : ∀ x : MV, x.plain = true → (pyOf x).depth = x.depth
  | .non, _ => by simp [pyOf, PyData.depth, MV.depth]
  | .bl b, _ => by simp [pyOf, PyData.depth, MV.depth]
  | .int i, _ => by simp [pyOf, PyData.depth, MV.depth]
  | .str s, _ => by simp [pyOf, PyData.depth, MV.depth]
  | .tup xs, h => by
    simp only [pyOf, PyData.depth, MV.depth]
    rw [depths_py xs (by simpa only [MV.plain] using h)]
  | .ref _, h => by simp [MV.plain] at h
  | .cls _, h => by simp [MV.plain] at h
  | .exc _ _, h => by simp [MV.plain] at h
  | .frl xs, h => by
    simp only [pyOf, PyData.depth, MV.depth]
    rw [depths_py xs (by simpa only [MV.plain] using h)]
  | .wrl _, h => by simp [MV.plain] at h
  | .frd _, h => by simp [MV.plain] at h
  | .obj _ _, h => by simp [MV.plain] at h
theorem depths_py : ∀ xs : List MV, MV.plains xs = true → PyData.depthAll (pyOfs xs) = MV.depths xs
  | [], _ => by simp [pyOfs, PyData.depthAll, MV.depths]
  | x :: xs, h => by
    simp only [MV.plains, Bool.and_eq_true] at h
    simp only [pyOfs, PyData.depthAll, MV.depths, depth_py x h.1, depths_py xs h.2]
end
mutual
theorem beq_py : ∀ (x y : MV), x.plain = true → y.plain = true → PyData.eqv (pyOf x) (pyOf y) = MV.beq x y
  | .non, y, _, hy => by
    cases y <;> simp [MV.plain] at hy <;> simp [pyOf, PyData.eqv, MV.beq]
  | .bl a, y, _, hy => by
    cases y <;> simp [MV.plain] at hy <;> simp [pyOf, PyData.eqv, MV.beq]
    case int j => rfl
  | .int i, y, _, hy => by
    cases y <;> simp [MV.plain] at hy <;> simp [pyOf, PyData.eqv, MV.beq]
    case bl j => rfl
    case int j => rfl
  | .str s, y, _, hy => by
    cases y <;> simp [MV.plain] at hy <;> simp [pyOf, PyData.eqv, MV.beq]
    case str t =>
      by_cases h : s = t
      · subst h; simp
      · have : ¬ S8 s = S8 t := fun z => h (S8_inj z)
        simp [h, this]
  | .tup xs, y, hx, hy => by
    cases y <;> simp [MV.plain] at hy <;> simp [pyOf, PyData.eqv, MV.beq]
    case tup ys => exact beqs_py xs ys (by simpa only [MV.plain] using hx) hy
  | .frl xs, y, hx, hy => by
    cases y <;> simp [MV.plain] at hy <;> simp [pyOf, PyData.eqv, MV.beq]
    case frl ys => exact beqs_py xs ys (by simpa only [MV.plain] using hx) hy
  | .ref _, _, h, _ => by simp [MV.plain] at h
  | .cls _, _, h, _ => by simp [MV.plain] at h
  | .exc _ _, _, h, _ => by simp [MV.plain] at h
  | .wrl _, _, h, _ => by simp [MV.plain] at h
  | .frd _, _, h, _ => by simp [MV.plain] at h
  | .obj _ _, _, h, _ => by simp [MV.plain] at h
theorem beqs_py : ∀ (xs ys : List MV), MV.plains xs = true → MV.plains ys = true → PyData.eqvAll (pyOfs xs) (pyOfs ys) = MV.beqs xs ys
  | [], ys, _, _ => by cases ys <;> simp [pyOfs, PyData.eqvAll, MV.beqs]
  | x :: xs, ys, hx, hy => by
    cases ys with
    | nil => simp [pyOfs, PyData.eqvAll, MV.beqs]
    | cons y ys =>
      simp only [MV.plains, Bool.and_eq_true] at hx hy
      simp only [pyOfs, PyData.eqvAll, MV.beqs, beq_py x y hx.1 hy.1, beqs_py xs ys hx.2 hy.2]
end
end
section
variable {Z : Stat} {W : WX} {D : Ds} {X : Cx} {pos : Pos} {ρ ρ' : Rho} {H H' : Hp} {σ : L2.St} {h : MHp}
mutual
theorem dp_of : ∀ (x : MV) (v : V), x.plain = true → RV Z ρ H x v → Dp Z.K H v (pyOf x)
  | .non, v, _, r => by rw [show v = .non by simpa only [RV] using r]; simp only [pyOf]; exact .non
  | .bl b, v, _, r => by rw [r.bl]; simp only [pyOf]; exact .bl b
  | .int i, v, _, r => by rw [r.int]; simp only [pyOf]; exact .int i
  | .str s, v, _, r => by rw [r.str.1]; simp only [pyOf]; exact .str _
  | .tup xs, v, h, r => by
    obtain ⟨a, vs, rfl, h1, h2⟩ := r.tupAt
    simp only [pyOf]
    exact .tup h1.sq (dps_of xs vs (by simpa only [MV.plain] using h) h2)
  | .ref _, _, h, _ => by simp [MV.plain] at h
  | .cls _, _, h, _ => by simp [MV.plain] at h
  | .exc _ _, _, h, _ => by simp [MV.plain] at h
  | .frl xs, v, h, r => by
    obtain ⟨a, vs, rfl, h1, h2⟩ := r.frlAt
    simp only [pyOf]
    exact .lst h1.sq (dps_of xs vs (by simpa only [MV.plain] using h) h2)
  | .wrl _, _, h, _ => by simp [MV.plain] at h
  | .frd _, _, h, _ => by simp [MV.plain] at h
  | .obj _ _, _, h, _ => by simp [MV.plain] at h
theorem dps_of : ∀ (xs : List MV) (vs : List V), MV.plains xs = true → RVs Z ρ H xs vs → DpAll Z.K H vs (pyOfs xs)
  | [], vs, _, r => by simp only [RVs] at r; subst r; simp only [pyOfs]; exact .nil
  | x :: xs, vs, h, r => by
    simp only [RVs] at r
    obtain ⟨v, t, rfl, h2, h3⟩ := r
    simp only [MV.plains, Bool.and_eq_true] at h
    simp only [pyOfs]
    exact .cons (dp_of x v h.1 h2) (dps_of xs t h.2 h3)
end
mutual
theorem lay_of : ∀ (x : MV) (v : V), x.plain = true → RV Z ρ H x v → (pyOf x).canLay0 = true
  | .non, v, _, r => by simp [pyOf, PyData.canLay0]
  | .bl b, v, _, r => by simp [pyOf, PyData.canLay0]
  | .int i, v, _, r => by simp [pyOf, PyData.canLay0]
  | .str s, v, _, r => by
    have k := r.str.2
    unfold okS at k
    simp only [Bool.and_eq_true, List.all_eq_true, decide_eq_true_eq] at k
    simp only [pyOf, PyData.canLay0, PyData.strOk, S8]
    rw [Array.all_eq_true']
    intro c hc
    simpa using k.2 c (by simpa using hc)
  | .tup xs, v, h, r => by
    obtain ⟨a, vs, rfl, h1, h2⟩ := r.tupAt
    simp only [pyOf, PyData.canLay0]
    exact lays_of xs vs (by simpa only [MV.plain] using h) h2
  | .ref _, _, h, _ => by simp [MV.plain] at h
  | .cls _, _, h, _ => by simp [MV.plain] at h
  | .exc _ _, _, h, _ => by simp [MV.plain] at h
  | .frl xs, v, h, r => by
    obtain ⟨a, vs, rfl, h1, h2⟩ := r.frlAt
    simp only [pyOf, PyData.canLay0]
    exact lays_of xs vs (by simpa only [MV.plain] using h) h2
  | .wrl _, _, h, _ => by simp [MV.plain] at h
  | .frd _, _, h, _ => by simp [MV.plain] at h
  | .obj _ _, _, h, _ => by simp [MV.plain] at h
theorem lays_of : ∀ (xs : List MV) (vs : List V), MV.plains xs = true → RVs Z ρ H xs vs → PyData.canLayAll0 (pyOfs xs) = true
  | [], vs, _, r => by simp [pyOfs, PyData.canLayAll0]
  | x :: xs, vs, h, r => by
    simp only [RVs] at r
    obtain ⟨v, t, rfl, h2, h3⟩ := r
    simp only [MV.plains, Bool.and_eq_true] at h
    simp only [pyOfs, PyData.canLayAll0, lay_of x v h.1 h2, lays_of xs t h.2 h3, Bool.and_self]
end
theorem snap_plain {v w : MV} (e : snap h v = some w) : w.plain = true := by
  unfold snap at e
  split at e
  · split at e
    · split at e
      · cases e; simp only [MV.plain]; assumption
      · cases e
    · cases e
  · split at e
    · cases e; assumption
    · cases e
theorem snap_dp {v w : MV} {vv : V} (R : HR Z ρ h H) (rv : RV Z ρ H v vv) (e : snap h v = some w) : Dp Z.K H vv (pyOf w) ∧ (pyOf w).canLay0 = true := by
  unfold snap at e
  split at e
  · split at e
    · rename_i xs q
      split at e
      · rename_i pl
        cases e
        obtain ⟨a, vs, rfl, _, h1, r1⟩ := R.lst q rv
        simp only [pyOf, PyData.canLay0]
        exact ⟨.lst (SqL.of h1) (dps_of xs vs pl r1), lays_of xs vs pl r1⟩
      · cases e
    · cases e
  · split at e
    · rename_i pl
      cases e
      exact ⟨dp_of _ vv pl rv, lay_of _ vv pl rv⟩
    · cases e
/-- == by values -/
theorem eq_of {v w : MV} {vv ww : V} {b : Bool} (R : HR Z ρ h H) (rv : RV Z ρ H v vv) (rw' : RV Z ρ H w ww) (e : eqM v w h = some b) :
    ∃ d e, Dp Z.K H vv d ∧ Dp Z.K H ww e ∧ SeqAt.shaped d = true ∧ SeqAt.shaped e = true ∧ PyData.eqv d e = b := by
  unfold eqM at e
  split at e
  · rename_i x y e1 e2
    unfold eqD at e
    split at e
    · rename_i q
      simp only [Bool.and_eq_true, decide_eq_true_eq] at q
      cases e
      obtain ⟨d1, l1⟩ := snap_dp R rv e1
      obtain ⟨d2, l2⟩ := snap_dp R rw' e2
      refine ⟨pyOf x, pyOf y, d1, d2, ?_, ?_, beq_py x y (snap_plain e1) (snap_plain e2)⟩
      · unfold SeqAt.shaped
        rw [l1, depth_py x (snap_plain e1)]
        simp
        omega
      · unfold SeqAt.shaped
        rw [l2, depth_py y (snap_plain e2)]
        simp
        omega
    · cases e
  · cases e
/-- a comparison of two values -/
theorem s_cmpG {o : CmpOp} {op : Co} {a b : Expr} {ma mb : E} {r : R2} (ho : OpR X (compareOp o) r) (ha : PE X a (tE Z W D ma)) (hb : PE X b (tE Z W D mb)) (hm : behindInMarks o b = false)
    (hr : ∀ ρ H h v w vv ww c Q, HR Z ρ h H → RV Z ρ H v vv → RV Z ρ H w ww → cmpM op v w h = some c → Q (.bl c) H → r vv ww H Q) : PE X (.Compare a [o] [b] pos) (tE Z W D (.cmp op ma mb)) := by
  refine PEw (pe_cmpR ho ha hb hm) fun σ H Q ⟨ρ, fr, h, F, R, P⟩ => ⟨ρ, fr, h, F, R, ?_⟩
  refine (Post.bind P).imp fun v h1 ρ1 H1 e1 r1 p1 vv rv => ⟨ρ1, fr, h1, F.ext e1, r1, ?_⟩
  refine (Post.bind p1).imp fun w h2 ρ2 H2 e2 r2 p2 ww rw' => ?_
  obtain ⟨u, hu, p⟩ := Post.get p2
  cases q : cmpM op v w h2 with
  | none => rw [q] at hu; cases hu
  | some c =>
    rw [q] at hu
    cases hu
    exact hr ρ2 H2 h2 v w vv ww c Q r2 (rv.ext e2) rw' q (p ρ2 H2 Ext.refl r2 _ (RV.mkBl c))
theorem cmp_bl {o : Co} {ma mb : E} {fr : Fr} {h h1 : MHp} {v : MV} (e : evE D (.cmp o ma mb) fr h = .ok v h1) : ∃ b, v = .bl b := by
  unfold evE at e
  cases q : evE D ma fr h with
  | no => rw [q] at e; cases e
  | ex x h' => rw [q] at e; cases e
  | ok x h' =>
    rw [q] at e
    dsimp only [R.bind] at e
    cases q2 : evE D mb fr h' with
    | no => rw [q2] at e; cases e
    | ex x h' => rw [q2] at e; cases e
    | ok y h'' =>
      rw [q2] at e
      dsimp only [R.bind] at e
      cases q3 : cmpM o x y h'' with
      | none => rw [q3] at e; cases e
      | some c => rw [q3] at e; cases e; exact ⟨c, rfl⟩
/-- .. as a test -/
theorem s_cmpT {o : CmpOp} {op : Co} {a b : Expr} {ma mb : E} {r : R2} (ho : OpR X (compareOp o) r) (ha : PE X a (tE Z W D ma)) (hb : PE X b (tE Z W D mb)) (hm : behindInMarks o b = false)
    (hr : ∀ ρ H h v w vv ww c Q, HR Z ρ h H → RV Z ρ H v vv → RV Z ρ H w ww → cmpM op v w h = some c → Q (.bl c) H → r vv ww H Q) : PT X (.Compare a [o] [b] pos) (tTst Z W D (.cmp op ma mb)) := by
  refine s_tstB (pt_cmpR ho ha hb hm) (fun σ H Q ⟨ρ, fr, h, F, R, P⟩ => ⟨ρ, fr, h, F, R, ?_⟩) fun fr h v h1 e => cmp_bl e
  refine (Post.bind P).imp fun v h1 ρ1 H1 e1 r1 p1 vv rv => ⟨ρ1, fr, h1, F.ext e1, r1, ?_⟩
  refine (Post.bind p1).imp fun w h2 ρ2 H2 e2 r2 p2 ww rw' => ?_
  obtain ⟨u, hu, p⟩ := Post.get p2
  cases q : cmpM op v w h2 with
  | none => rw [q] at hu; cases hu
  | some c =>
    rw [q] at hu
    cases hu
    exact hr ρ2 H2 h2 v w vv ww c Q r2 (rv.ext e2) rw' q (p ρ2 H2 Ext.refl r2 _ (RV.mkBl c))
end
end G
set_option Elab.async false
set_option linter.all false
set_option maxRecDepth 100000
set_option maxHeartbeats 1000000
/-! Comparisons: each by its sign; not, and, or, if. -/
namespace G
open PySem PySem.Spec PyProof.Rows L2
theorem mem_py {x : MV} (hx : x.plain = true) : ∀ (ys : List MV), MV.plains ys = true → ((pyOfs ys).any fun z => PyData.eqv z (pyOf x)) = memM x ys
  | [], _ => by simp [pyOfs, memM]
  | y :: ys, h => by
    simp only [MV.plains, Bool.and_eq_true] at h
    simp only [pyOfs, memM, List.any_cons, mem_py hx ys h.2, beq_py y x h.1 hx]
theorem flat_plain {x : MV} (h : x.flat = true) : x.plain = true := by cases x <;> simp [MV.flat] at h <;> simp [MV.plain]
theorem flats_plain {xs : List MV} (h : xs.all MV.flat = true) : MV.plains xs = true := by
  induction xs with
  | nil => simp [MV.plains]
  | cons x xs ih =>
    simp only [List.all_cons, Bool.and_eq_true] at h
    simp only [MV.plains, flat_plain h.1, ih h.2, Bool.and_self]
theorem strLt_iff : ∀ s t : List Nat, strLt s t = decide (s < t)
  | [], [] => by simp [strLt]
  | [], _ :: _ => by simp [strLt]
  | _ :: _, [] => by simp [strLt]
  | a :: r, b :: t => by
    simp only [strLt, List.cons_lt_cons_iff, strLt_iff r t]
    by_cases h : a < b
    · simp [h]
    · by_cases h2 : b < a
      · have : a ≠ b := by omega
        simp [h, h2, this]
      · have : a = b := by omega
        simp [this]
section
variable {Z : Stat} {W : WX} {D : Ds} {X : Cx} {pos : Pos} {ρ ρ' : Rho} {H H' : Hp} {σ : L2.St} {h : MHp}
theorem flat_V {x : MV} {v : V} (hx : x.flat = true) (r : RV Z ρ H x v) : flatV v = true := by
  cases x <;> simp [MV.flat] at hx
  · rw [show v = .non by simpa only [RV] using r]; rfl
  · rw [r.bl]; rfl
  · rw [r.int]; rfl
  · rw [r.str.1]; rfl
theorem eq_V {x y : MV} {v w : V} (hx : x.flat = true) (hy : y.flat = true) (r : RV Z ρ H x v) (q : RV Z ρ H y w) : eqV v w = MV.beq x y := by
  cases x <;> simp [MV.flat] at hx <;> cases y <;> simp [MV.flat] at hy <;> simp only [MV.beq] <;>
    first
    | (rw [show v = .non by simpa only [RV] using r]; skip)
    | rw [r.bl]
    | rw [r.int]
    | rw [r.str.1]
  all_goals
    first
    | (rw [show w = .non by simpa only [RV] using q]; skip)
    | rw [q.bl]
    | rw [q.int]
    | rw [q.str.1]
  all_goals try rfl
  case str.str a b =>
    simp only [eqV]
    by_cases e : a = b
    · simp [e]
    · have : ¬ S8 a = S8 b := fun z => e (S8_inj z)
      simp [e, this]
theorem in_V {x : MV} {v : V} (hx : x.flat = true) (r : RV Z ρ H x v) : ∀ {ys : List MV} {vs : List V}, ys.all MV.flat = true → RVs Z ρ H ys vs → inV v vs = memM x ys ∧ vs.all flatV = true
  | [], _, _, q => by simp only [RVs] at q; subst q; simp [inV, memM]
  | y :: ys, _, hy, q => by
    simp only [RVs] at q
    obtain ⟨w, t, rfl, q1, q2⟩ := q
    simp only [List.all_cons, Bool.and_eq_true] at hy
    obtain ⟨i1, i2⟩ := in_V hx r hy.2 q2
    refine ⟨?_, by simp [flat_V hy.1 q1, i2]⟩
    simp only [inV, List.any_cons, memM] at i1 ⊢
    rw [i1, eq_V hy.1 hx q1 r]
def coOf : Co → CmpOp
  | .eq => .Eq
  | .ne => .NotEq
  | .lt => .Lt
  | .le => .LtE
  | .gt => .Gt
  | .ge => .GtE
  | .is => .Is
  | .isnot => .IsNot
  | .isin => .In
  | .notin => .NotIn
/-- a comparison's reading -/
def rCo (Z : Stat) (o : Co) : R2 := fun x y H Q => ∃ ρ h v w c, HR Z ρ h H ∧ RV Z ρ H v x ∧ RV Z ρ H w y ∧ cmpM o v w h = some c ∧ Q (.bl c) H
/-- in: how it reads -/
theorem in_of {v w : MV} {x y : V} {c : Bool} (R : HR Z ρ h H) (rv : RV Z ρ H v x) (rw' : RV Z ρ H w y) (e : inM v w h = some c) :
    (∃ p xs, y = .ref p ∧ (SqL Z.K H p xs ∨ SqT Z.K H p xs) ∧ flatV x = true ∧ xs.all flatV = true ∧ inV x xs = c) ∨
    (∃ d ds, Dp Z.K H x d ∧ Dp Z.K H y (.list ds) ∧ SeqAt.shaped d = true ∧ SeqAt.shaped (.list ds) = true ∧ (ds.any fun z => PyData.eqv z d) = c) ∨
    (∃ (k : Nat) (z : Str), x = .str ⟨#[k]⟩ ∧ y = .str z ∧ decide (k ∈ z.cps.toList) = c) := by
  have base : ∀ ys : List MV, listOf w h = some ys → (if v.plain && MV.plains ys && decide (v.depth < 60) && decide (MV.depths ys < 59) then some (memM v ys) else none) = some c →
      ∃ d ds, Dp Z.K H x d ∧ Dp Z.K H y (.list ds) ∧ SeqAt.shaped d = true ∧ SeqAt.shaped (.list ds) = true ∧ (ds.any fun z => PyData.eqv z d) = c := by
    intro ys hl e
    split at e
    · rename_i q
      simp only [Bool.and_eq_true, decide_eq_true_eq] at q
      obtain ⟨⟨⟨p1, p2⟩, d1⟩, d2⟩ := q
      obtain ⟨a, vs, rfl, h1, h2⟩ := list_of R rw' hl
      have q1 := p1
      have q2 := p2
      refine ⟨pyOf v, pyOfs ys, dp_of v x q1 rv, .lst h1 (dps_of ys vs q2 h2), ?_, ?_, by rw [mem_py p1 ys p2]; exact Option.some.inj e⟩
      · unfold SeqAt.shaped
        rw [lay_of v x q1 rv, depth_py v q1]
        simp
        omega
      · unfold SeqAt.shaped
        simp only [PyData.canLay0, PyData.depth, lays_of ys vs q2 h2, depths_py ys q2]
        simp
        omega
    · cases e
  cases w with
  | str s =>
    obtain ⟨rfl, k⟩ := rw'.str
    unfold inM at e
    cases v <;> try (simp at e; done)
    rename_i t
    dsimp only at e
    obtain ⟨rfl, k2⟩ := rv.str
    match t, e with
    | [z], e => exact .inr (.inr ⟨z, S8 s, rfl, rfl, Option.some.inj e⟩)
  | tup ys =>
    obtain ⟨a, vs, rfl, h1, h2⟩ := rw'.tupAt
    unfold inM at e
    dsimp only at e
    split at e
    · rename_i q
      simp only [Bool.and_eq_true] at q
      obtain ⟨i1, i2⟩ := in_V q.1 rv q.2 h2
      exact .inl ⟨a, vs, rfl, .inr h1.sq, flat_V q.1 rv, i2, by rw [i1]; exact Option.some.inj e⟩
    · cases e
  | frl ys =>
    exact .inr (.inl (base ys rfl e))
  | wrl ys =>
    exact .inr (.inl (base ys rfl e))
  | ref m =>
    unfold inM at e
    dsimp only at e
    cases q : listOf (.ref m) h with
    | none => rw [q] at e; cases e
    | some ys => rw [q] at e; exact .inr (.inl (base ys q e))
  | _ => cases e
theorem is_non {v : MV} {x : V} (rv : RV Z ρ H v x) : (decide (x = V.non)) = v.isNon := by
  cases v with
  | non => rw [show x = .non by simpa only [RV] using rv]; rfl
  | bl b => rw [rv.bl]; rfl
  | int b => rw [rv.int]; rfl
  | str b => rw [rv.str.1]; rfl
  | tup xs => obtain ⟨a, vs, rfl, _⟩ := rv.tupAt; rfl
  | frl xs => obtain ⟨a, vs, rfl, _⟩ := rv.frlAt; rfl
  | wrl xs => obtain ⟨a, vs, rfl, _⟩ := rv.wrlAt; rfl
  | frd xs => simp only [RV] at rv
  | obj c fs => simp only [RV] at rv
  | ref m => obtain ⟨a, rfl, _⟩ := rv.refAt; rfl
  | cls m => rw [show x = .ref (Z.ca m) by simpa only [RV] using rv]; rfl
  | exc c fs =>
    simp only [RV] at rv
    obtain ⟨a, d, fs', rfl, _⟩ := rv
    rfl
theorem op_co (hK : X.K = Z.K) (hu : X.A.units + 65 < cLine) (o : Co) : OpR X (compareOp (coOf o)) (rCo Z o) := by
  cases o with
  | eq =>
    rintro pins s σ H x y v u Q I rx ry ⟨ρ, h, a, b, c, R, r1, r2, e, q⟩
    obtain ⟨d1, d2, h1, h2, h3, h4, h5⟩ := eq_of R r1 r2 e
    exact op_eqD (by omega) pins s σ H x y v u Q I rx ry ⟨d1, d2, hK ▸ h1, hK ▸ h2, h3, h4, by rw [h5]; exact q⟩
  | ne =>
    rintro pins s σ H x y v u Q I rx ry ⟨ρ, h, a, b, c, R, r1, r2, e, q⟩
    have e : (eqM a b h).map (!·) = some c := e
    cases e0 : eqM a b h with
    | none => rw [e0] at e; cases e
    | some c' =>
      rw [e0] at e
      obtain ⟨d1, d2, h1, h2, h3, h4, h5⟩ := eq_of R r1 r2 e0
      exact op_neD (by omega) pins s σ H x y v u Q I rx ry ⟨d1, d2, hK ▸ h1, hK ▸ h2, h3, h4, by rw [h5, show (!c') = c from Option.some.inj e]; exact q⟩
  | lt =>
    rintro pins s σ H x y v u Q I rx ry ⟨ρ, h, a, b, c, R, r1, r2, e, q⟩
    cases a <;> cases b <;> simp [cmpM] at e
    · subst e
      exact op_lt pins s σ H x y v u Q I rx ry ⟨_, _, r1.int, r2.int, q⟩
    · refine op_lt_str pins s σ H x y v u Q I rx ry ⟨_, _, r1.str.1, r2.str.1, ?_⟩
      rename_i s1 t1
      rw [show decide ((S8 s1).cps.toList < (S8 t1).cps.toList) = c by rw [← e, strLt_iff]; rfl]
      exact q
  | le =>
    rintro pins s σ H x y v u Q I rx ry ⟨ρ, h, a, b, c, R, r1, r2, e, q⟩
    cases a <;> cases b <;> simp [cmpM] at e
    subst e
    exact op_le pins s σ H x y v u Q I rx ry ⟨_, _, r1.int, r2.int, q⟩
  | gt =>
    rintro pins s σ H x y v u Q I rx ry ⟨ρ, h, a, b, c, R, r1, r2, e, q⟩
    cases a <;> cases b <;> simp [cmpM] at e
    subst e
    exact op_gt pins s σ H x y v u Q I rx ry ⟨_, _, r1.int, r2.int, q⟩
  | ge =>
    rintro pins s σ H x y v u Q I rx ry ⟨ρ, h, a, b, c, R, r1, r2, e, q⟩
    cases a <;> cases b <;> simp [cmpM] at e
    subst e
    exact op_ge pins s σ H x y v u Q I rx ry ⟨_, _, r1.int, r2.int, q⟩
  | is =>
    rintro pins s σ H x y v u Q I rx ry ⟨ρ, h, a, b, c, R, r1, r2, e, q⟩
    cases b <;> simp [cmpM] at e
    refine op_isN pins s σ H x y v u Q I rx ry ⟨by simpa only [RV] using r2, ?_⟩
    rw [is_non r1, e]
    exact q
  | isnot =>
    rintro pins s σ H x y v u Q I rx ry ⟨ρ, h, a, b, c, R, r1, r2, e, q⟩
    cases b <;> simp [cmpM] at e
    refine op_notN pins s σ H x y v u Q I rx ry ⟨by simpa only [RV] using r2, ?_⟩
    rw [is_non r1, e, Bool.not_not]
    exact q
  | isin =>
    rintro pins s σ H x y v u Q I rx ry ⟨ρ, h, a, b, c, R, r1, r2, e, q⟩
    rcases in_of R r1 r2 e with ⟨p, xs, h1, h2, h3, h4, h5⟩ | ⟨d, ds, h1, h2, h3, h4, h5⟩ | ⟨k, z, h1, h2, h3⟩
    · exact op_in_seq pins s σ H x y v u Q I rx ry ⟨p, xs, h1, hK ▸ h2, h3, h4, by rw [h5]; exact q⟩
    · exact op_inD hu pins s σ H x y v u Q I rx ry ⟨d, ds, hK ▸ h1, hK ▸ h2, h3, h4, by rw [h5]; exact q⟩
    · exact op_inS pins s σ H x y v u Q I rx ry ⟨k, z, h1, h2, by rw [h3]; exact q⟩
  | notin =>
    rintro pins s σ H x y v u Q I rx ry ⟨ρ, h, a, b, c, R, r1, r2, e, q⟩
    have e : (inM a b h).map (!·) = some c := e
    cases e0 : inM a b h with
    | none => rw [e0] at e; cases e
    | some c' =>
      rw [e0] at e
      have e1 : (!c') = c := Option.some.inj e
      rcases in_of R r1 r2 e0 with ⟨p, xs, h1, h2, h3, h4, h5⟩ | ⟨d, ds, h1, h2, h3, h4, h5⟩ | ⟨k, z, h1, h2, h3⟩
      · exact op_notIn_seq pins s σ H x y v u Q I rx ry ⟨p, xs, h1, hK ▸ h2, h3, h4, by show Q (.bl (!inV x xs)) H; rw [h5, e1]; exact q⟩
      · exact op_notInD hu pins s σ H x y v u Q I rx ry ⟨d, ds, hK ▸ h1, hK ▸ h2, h3, h4, by rw [h5, e1]; exact q⟩
      · exact op_notInS pins s σ H x y v u Q I rx ry ⟨k, z, h1, h2, by rw [h3, e1]; exact q⟩
theorem s_cmp {o : Co} {a b : Expr} {ma mb : E} (hK : X.K = Z.K) (hu : X.A.units + 65 < cLine) (ha : PE X a (tE Z W D ma)) (hb : PE X b (tE Z W D mb)) (hm : behindInMarks (coOf o) b = false) : PE X (.Compare a [coOf o] [b] pos) (tE Z W D (.cmp o ma mb)) :=
  s_cmpG (op_co hK hu o) ha hb hm fun ρ H h v w vv ww c Q R r1 r2 e q => ⟨ρ, h, v, w, c, R, r1, r2, e, q⟩
theorem s_cmpB {o : Co} {a b : Expr} {ma mb : E} (hK : X.K = Z.K) (hu : X.A.units + 65 < cLine) (ha : PE X a (tE Z W D ma)) (hb : PE X b (tE Z W D mb)) (hm : behindInMarks (coOf o) b = false) : PT X (.Compare a [coOf o] [b] pos) (tTst Z W D (.cmp o ma mb)) :=
  s_cmpT (op_co hK hu o) ha hb hm fun ρ H h v w vv ww c Q R r1 r2 e q => ⟨ρ, h, v, w, c, R, r1, r2, e, q⟩
theorem chain_w {o1 o2 : Co} {ma mb mc : E} {ta tb tc : TE} (ia : ta = tE Z W D ma) (ib : tb = tE Z W D mb) (ic : tc = tE Z W D mc) : ∀ σ H Q, tE Z W D (.chain o1 o2 ma mb mc) σ H Q → tChain (rCo Z o1) (rCo Z o2) ta tb tc σ H Q := by
  subst ia; subst ib; subst ic
  rintro σ H Q ⟨ρ, fr, h, F, R, P⟩
  refine ⟨ρ, fr, h, F, R, ?_⟩
  refine (Post.bind P).imp fun v h1 ρ1 H1 e1 r1 p1 vv rv => ⟨ρ1, fr, h1, F.ext e1, r1, ?_⟩
  refine (Post.bind p1).imp fun w h2 ρ2 H2 e2 r2 p2 ww rw' => ?_
  cases q : cmpM o1 v w h2 with
  | none => rw [q] at p2; exact p2.elim
  | some c =>
    rw [q] at p2
    refine ⟨ρ2, h2, v, w, c, r2, rv.ext e2, rw', q, c, rfl, ?_⟩
    cases c with
    | false => exact p2 ρ2 H2 Ext.refl r2 _ (RV.mkBl _)
    | true =>
      refine ⟨ρ2, fr, h2, (F.ext e1).ext e2, r2, ?_⟩
      refine (Post.bind p2).imp fun z h3 ρ3 H3 e3 r3 p3 zz rz => ?_
      obtain ⟨u, hu, p⟩ := Post.get p3
      cases q2 : cmpM o2 w z h3 with
      | none => rw [q2] at hu; cases hu
      | some d =>
        rw [q2] at hu
        cases hu
        exact ⟨ρ3, h3, w, z, d, r3, rw'.ext e3, rz, q2, p ρ3 H3 Ext.refl r3 _ (RV.mkBl d)⟩
theorem s_chain {o1 o2 : Co} {a b c : Expr} {ma mb mc : E} (hK : X.K = Z.K) (hu : X.A.units + 65 < cLine) (ha : PE X a (tE Z W D ma)) (hb : PE X b (tE Z W D mb)) (hc : PE X c (tE Z W D mc)) (hm : lastMarks [coOf o1, coOf o2] [b, c] = false) :
    PE X (.Compare a [coOf o1, coOf o2] [b, c] pos) (tE Z W D (.chain o1 o2 ma mb mc)) := PEw (pe_chain (op_co hK hu o1) (op_co hK hu o2) ha hb hc hm) (chain_w rfl rfl rfl)
theorem R.bind_ok {α β : Type} {x : R α} {k : α → MHp → R β} {b : β} {h : MHp} (e : x.bind k = .ok b h) : ∃ a h1, x = .ok a h1 ∧ k a h1 = .ok b h := by
  cases x with
  | ok a h1 => exact ⟨a, h1, rfl, e⟩
  | ex a h1 => cases e
  | no => cases e
theorem chain_bl {o1 o2 : Co} {ma mb mc : E} {fr : Fr} {h h1 : MHp} {v : MV} (e : evE D (.chain o1 o2 ma mb mc) fr h = .ok v h1) : ∃ b, v = .bl b := by
  unfold evE at e
  obtain ⟨x, h2, _, e⟩ := R.bind_ok e
  obtain ⟨y, h3, _, e⟩ := R.bind_ok e
  cases q : cmpM o1 x y h3 with
  | none => rw [q] at e; cases e
  | some c =>
    rw [q] at e
    cases c with
    | false => cases e; exact ⟨_, rfl⟩
    | true =>
      obtain ⟨z, h4, _, e⟩ := R.bind_ok e
      cases q2 : cmpM o2 y z h4 with
      | none => rw [q2] at e; cases e
      | some c => rw [q2] at e; cases e; exact ⟨c, rfl⟩
theorem s_chainB {o1 o2 : Co} {a b c : Expr} {ma mb mc : E} (hK : X.K = Z.K) (hu : X.A.units + 65 < cLine) (ha : PE X a (tE Z W D ma)) (hb : PE X b (tE Z W D mb)) (hc : PE X c (tE Z W D mc)) (hm : lastMarks [coOf o1, coOf o2] [b, c] = false) :
    PT X (.Compare a [coOf o1, coOf o2] [b, c] pos) (tTst Z W D (.chain o1 o2 ma mb mc)) :=
  s_tstB (pt_chain (op_co hK hu o1) (op_co hK hu o2) ha hb hc hm) (chain_w rfl rfl rfl) fun fr h v h1 e => chain_bl e
/-! ### not, and, or, if -/
theorem s_not {a : Expr} {ma : E} (hK : X.K = Z.K) (ha : PE X a (tE Z W D ma)) : PE X (.UnaryOp .Not a pos) (tE Z W D (.not ma)) := by
  refine PEw (pe_notT ha) fun σ H Q ⟨ρ, fr, h, F, R, P⟩ => ⟨ρ, fr, h, F, R, ?_⟩
  refine (Post.bind P).imp fun v h1 ρ1 H1 e1 r1 p1 vv rv => ?_
  obtain ⟨u, hu, p⟩ := Post.get p1
  cases q : truM v h1 with
  | none => rw [q] at hu; cases hu
  | some b =>
    rw [q] at hu
    cases hu
    exact ⟨b, hK ▸ tru_of r1 rv q, p ρ1 H1 Ext.refl r1 _ (RV.mkBl _)⟩
theorem s_and {a b : Expr} {rest : List Expr} {ma mb : E} (hK : X.K = Z.K) (ha : PE X a (tE Z W D ma)) (hb : PE X (.BoolOp .And (b :: rest) pos) (tE Z W D mb)) : PE X (.BoolOp .And (a :: b :: rest) pos) (tE Z W D (.and ma mb)) := by
  refine PEw (pe_andT ha hb) fun σ H Q ⟨ρ, fr, h, F, R, P⟩ => ⟨ρ, fr, h, F, R, ?_⟩
  refine (Post.bind P).imp fun v h1 ρ1 H1 e1 r1 p1 vv rv => ?_
  cases q : truM v h1 with
  | none => rw [q] at p1; exact p1.elim
  | some c =>
    rw [q] at p1
    refine ⟨c, hK ▸ tru_of r1 rv q, ?_⟩
    cases c with
    | true => exact ⟨ρ1, fr, h1, F.ext e1, r1, p1⟩
    | false => exact p1 ρ1 H1 Ext.refl r1 vv rv
theorem s_or {a b : Expr} {rest : List Expr} {ma mb : E} (hK : X.K = Z.K) (ha : PE X a (tE Z W D ma)) (hb : PE X (.BoolOp .Or (b :: rest) pos) (tE Z W D mb)) : PE X (.BoolOp .Or (a :: b :: rest) pos) (tE Z W D (.or ma mb)) := by
  refine PEw (pe_orT ha hb) fun σ H Q ⟨ρ, fr, h, F, R, P⟩ => ⟨ρ, fr, h, F, R, ?_⟩
  refine (Post.bind P).imp fun v h1 ρ1 H1 e1 r1 p1 vv rv => ?_
  cases q : truM v h1 with
  | none => rw [q] at p1; exact p1.elim
  | some c =>
    rw [q] at p1
    refine ⟨c, hK ▸ tru_of r1 rv q, ?_⟩
    cases c with
    | false => exact ⟨ρ1, fr, h1, F.ext e1, r1, p1⟩
    | true => exact p1 ρ1 H1 Ext.refl r1 vv rv
theorem s_ite {c a b : Expr} {mc ma mb : E} (hc : PT X c (tTst Z W D mc)) (ha : PE X a (tE Z W D ma)) (hb : PE X b (tE Z W D mb)) : PE X (.IfExp c a b pos) (tE Z W D (.ite mc ma mb)) := by
  refine PEw (pe_ifExp hc ha hb) fun σ H Q ⟨ρ, fr, h, F, R, P⟩ => ⟨ρ, fr, h, F, R, ?_⟩
  have P' := Post.bind P
  unfold evTest
  cases q : evE D mc fr h with
  | no => rw [q] at P'; exact P'.elim
  | ex x h1 => rw [q] at P'; exact P'
  | ok v h1 =>
    rw [q] at P'
    show Post Z W ρ H σ (G.R.get (truM v h1) h1) _
    have P1 : Post Z W ρ H σ (match truM v h1 with | some true => evE D ma fr h1 | some false => evE D mb fr h1 | none => G.R.no) (fun v x ρ' H' => ∀ vv, RV Z ρ' H' v vv → Q vv H') := by
      have := P
      unfold evE at this
      rw [q] at this
      exact this
    cases q2 : truM v h1 with
    | none => rw [q2] at P1; exact P1.elim
    | some b =>
      rw [q2] at P1
      intro ρ1 H1 e1 r1
      cases b with
      | true => exact ⟨ρ1, fr, h1, F.ext e1, r1, Post.later P1 e1⟩
      | false => exact ⟨ρ1, fr, h1, F.ext e1, r1, Post.later P1 e1⟩
/-- tests -/
theorem tst_bind {ma : E} {fr : Fr} {h : MHp} {σ : L2.St} {Q Q' : Bool → MHp → Rho → Hp → Prop} {k : MV → MHp → R MV} (P : Post Z W ρ H σ (((evE D ma fr h).bind k).bind fun x h => R.get (truM x h) h) Q)
    (c : ∀ v h1 b, truM v h1 = some b → ∀ ρ1 H1, Ext ρ H ρ1 H1 → HR Z ρ1 h1 H1 → Post Z W ρ1 H1 σ ((k v h1).bind fun x h => R.get (truM x h) h) Q → Q' b h1 ρ1 H1) (n : ∀ v h1, truM v h1 = none → k v h1 = R.no) : Post Z W ρ H σ (evTest D ma fr h) Q' := by
  unfold evTest
  cases q : evE D ma fr h with
  | no => rw [q] at P; exact P.elim
  | ex x h1 => rw [q] at P; exact P
  | ok v h1 =>
    rw [q] at P
    show Post Z W ρ H σ (R.get (truM v h1) h1) _
    cases q2 : truM v h1 with
    | none =>
      have P' : Post Z W ρ H σ ((k v h1).bind fun x h => R.get (truM x h) h) Q := P
      rw [n v h1 q2] at P'
      exact P'.elim
    | some b => exact fun ρ1 H1 e1 r1 => c v h1 b q2 ρ1 H1 e1 r1 (Post.later P e1)
theorem s_notB {a : Expr} {ma : E} (ha : PT X a (tTst Z W D ma)) : PT X (.UnaryOp .Not a pos) (tTst Z W D (.not ma)) := by
  refine PTw (pt_not ha) fun σ H Q ⟨ρ, fr, h, F, R, P⟩ => ⟨ρ, fr, h, F, R, ?_⟩
  unfold evTest evE at P
  refine tst_bind P (fun v h1 b e ρ1 H1 e1 r1 p => ?_) fun v h1 e => by rw [e]; rfl
  rw [e] at p
  exact p ρ1 H1 Ext.refl r1
theorem s_andB {a b : Expr} {rest : List Expr} {ma mb : E} (ha : PT X a (tTst Z W D ma)) (hb : PW X (.BoolOp .And (b :: rest) pos) (tTst Z W D mb)) : PW X (.BoolOp .And (a :: b :: rest) pos) (tTst Z W D (.and ma mb)) := by
  refine ⟨fun wh pins s σ H Q I q => (pw_and ha hb).run wh pins s σ H Q I ?_⟩
  obtain ⟨ρ, fr, h, F, R, P⟩ := q
  refine ⟨ρ, fr, h, F, R, ?_⟩
  unfold evTest evE at P
  refine tst_bind P (fun v h1 b e ρ1 H1 e1 r1 p => ?_) fun v h1 e => by rw [e]
  rw [e] at p
  cases b with
  | true => exact ⟨ρ1, fr, h1, F.ext e1, r1, p⟩
  | false =>
    have p : Post Z W ρ1 H1 σ (G.R.get (truM v h1) h1) fun b _ _ H' => Q b H' := p
    rw [e] at p
    exact p ρ1 H1 Ext.refl r1
theorem s_orB {a b : Expr} {rest : List Expr} {ma mb : E} (ha : PT X a (tTst Z W D ma)) (hb : PW X (.BoolOp .Or (b :: rest) pos) (tTst Z W D mb)) : PW X (.BoolOp .Or (a :: b :: rest) pos) (tTst Z W D (.or ma mb)) := by
  refine ⟨fun wh pins s σ H Q I q => (pw_or ha hb).run wh pins s σ H Q I ?_⟩
  obtain ⟨ρ, fr, h, F, R, P⟩ := q
  refine ⟨ρ, fr, h, F, R, ?_⟩
  unfold evTest evE at P
  refine tst_bind P (fun v h1 b e ρ1 H1 e1 r1 p => ?_) fun v h1 e => by rw [e]
  rw [e] at p
  cases b with
  | false => exact ⟨ρ1, fr, h1, F.ext e1, r1, p⟩
  | true =>
    have p : Post Z W ρ1 H1 σ (G.R.get (truM v h1) h1) fun b _ _ H' => Q b H' := p
    rw [e] at p
    exact p ρ1 H1 Ext.refl r1
end
end G
set_option Elab.async false
set_option linter.all false
set_option maxRecDepth 100000
set_option maxHeartbeats 1000000
/-! Subscripts, slices, built-in functions and methods, fields. -/
namespace G
open PySem PySem.Spec PyProof.Rows L2
section
variable {Z : Stat} {W : WX} {D : Ds} {X : Cx} {pos : Pos} {ρ ρ' : Rho} {H H' : Hp} {σ : L2.St} {h : MHp}
theorem place_eq (i : Int) (n : Nat) : placeI i n = ixN n i := rfl
theorem cut_lo (n : Nat) (lo : Option Int) : HT.sIx n 0 lo = cutL (lo.getD 0) n := by
  cases lo with
  | none => simp [HT.sIx, cutL]
  | some v =>
    simp only [HT.sIx, cutL, Option.getD_some]
    by_cases h : v < 0
    · rw [if_pos h, if_neg (by omega)]
    · rw [if_neg h, if_pos (by omega)]
theorem cut_hi (n : Nat) (hi : Option Int) : HT.sIx n n hi = hiCut hi n := by
  cases hi with
  | none => rfl
  | some v =>
    simp only [HT.sIx, cutL, hiCut]
    by_cases h : v < 0
    · rw [if_pos h, if_neg (by omega)]
    · rw [if_neg h, if_pos (by omega)]
theorem s_idx {a b : Expr} {ma mb : E} (hK : X.K = Z.K) (ha : PE X a (tE Z W D ma)) (hb : PE X b (tE Z W D mb)) (hs : PlainIx b) : PE X (.Subscript a b pos) (tE Z W D (.idx ma mb)) := by
  refine PEw (pe_ix ix_seq ha hb hs) fun σ H Q ⟨ρ, fr, h, F, R, P⟩ => ⟨ρ, fr, h, F, R, ?_⟩
  refine (Post.bind P).imp fun v h1 ρ1 H1 e1 r1 p1 vv rv => ⟨ρ1, fr, h1, F.ext e1, r1, ?_⟩
  refine (Post.bind p1).imp fun w h2 ρ2 H2 e2 r2 p2 ww rw' => ?_
  obtain ⟨u, hu, p⟩ := Post.get p2
  cases w <;> try (simp [idxM] at hu; done)
  rename_i i
  have rv2 := rv.ext e2
  have P0 := p ρ2 H2 Ext.refl r2
  unfold idxM at hu
  dsimp only at hu
  cases q : seqOf v h2 with
  | some xs =>
    rw [q] at hu
    dsimp only at hu
    cases q2 : placeI i xs.length with
    | none => rw [q2] at hu; cases hu
    | some k =>
      rw [q2] at hu
      dsimp only at hu
      obtain ⟨p0, vs, rfl, hq, rs⟩ := seq_of r2 rv2 q
      obtain ⟨uu, hu1, hu2⟩ := rs.get hu
      have hat : atI vs i = some uu := by
        unfold atI
        rw [← place_eq, ← rs.length, q2]
        exact hu1
      rw [hK]
      rcases hq with hq | hq
      · exact .inl ⟨p0, vs, i, uu, rfl, rw'.int, hq, hat, P0 uu hu2⟩
      · exact .inr (.inl ⟨p0, vs, i, uu, rfl, rw'.int, hq, hat, P0 uu hu2⟩)
  | none =>
    rw [q] at hu
    cases v <;> try (simp at hu; done)
    rename_i s
    dsimp only at hu
    cases q2 : placeI i s.length with
    | none => rw [q2] at hu; cases hu
    | some k =>
      rw [q2] at hu
      dsimp only at hu
      cases q3 : s[k]? with
      | none => rw [q3] at hu; cases hu
      | some c =>
        rw [q3] at hu
        obtain ⟨rfl, ks⟩ := rv2.str
        refine .inr (.inr ⟨S8 s, i, c, rfl, rw'.int, okS_sz ks, ?_, ?_⟩)
        · unfold atI
          rw [← place_eq]
          simp only [S8]
          rw [q2]
          exact q3
        · refine P0 _ ?_
          rw [← Option.some.inj hu]
          refine RV.mkStr ?_
          unfold okS at ks ⊢
          simp only [Bool.and_eq_true, decide_eq_true_eq, List.all_eq_true] at ks ⊢
          refine ⟨by simp [lineN], fun z hz => ?_⟩
          rw [List.mem_singleton.mp hz]
          exact ks.2 c (List.mem_of_getElem? q3)
/-! ### slices -/
def tEo (Z : Stat) (W : WX) (D : Ds) (m : Eo) : TO := fun σ H Q => ∃ ρ fr h, FR Z ρ H fr σ ∧ HR Z ρ h H ∧ Post Z W ρ H σ (evO D m fr h) fun v _ ρ' H' => Q v H'
theorem POw {e : Option Expr} {t t' : TO} (h : PO X e t) (i : ∀ σ H Q, t' σ H Q → t σ H Q) : PO X e t' := ⟨fun pins s σ H Q I q => h.run pins s σ H Q I (i _ _ _ q)⟩
theorem s_none : PO X none (tEo Z W D .none) := POw po_none fun σ H Q ⟨ρ, fr, h, F, R, P⟩ => P ρ H Ext.refl R
theorem s_some {e : Expr} {m : E} (he : PE X e (tE Z W D m)) : PO X (some e) (tEo Z W D (.some m)) := by
  refine POw (po_some he) fun σ H Q ⟨ρ, fr, h, F, R, P⟩ => ⟨ρ, fr, h, F, R, ?_⟩
  refine (Post.bind P).imp fun v h1 ρ1 H1 e1 r1 p1 vv rv => ?_
  cases v <;> try exact False.elim p1
  exact ⟨_, rv.int, p1 ρ1 H1 Ext.refl r1⟩
theorem cutV_eq (xs : List V) (lo hi : Option Int) : cutV xs lo hi = subL xs (cutL (lo.getD 0) xs.length) (hiCut hi xs.length) := by
  unfold cutV subL
  rw [cut_lo, cut_hi]
theorem RVs.sub {xs : List MV} {vs : List V} (r : RVs Z ρ H xs vs) (a b : Nat) : RVs Z ρ H (subL xs a b) (subL vs a b) := (r.drop a).take (b - a)
def slAll (K : PySem.W.Frag) (x : V) (lo hi : Option Int) (H : Hp) (Q : VK) : Prop := rSlL K x lo hi H Q ∨ (rSlA K x lo hi H Q ∨ rSlS x lo hi H Q)
theorem sl_all : SlR X (slAll X.K) := sl_list.or (sl_tupA.or sl_str)
theorem okS_sub {s : List Nat} (k : okS s = true) (a b : Nat) : okS (subL s a b) = true := by
  unfold okS at k ⊢
  simp only [Bool.and_eq_true, decide_eq_true_eq, List.all_eq_true] at k ⊢
  refine ⟨?_, fun c hc => k.2 c (List.mem_of_mem_drop (List.mem_of_mem_take hc))⟩
  unfold subL
  rw [List.length_take, List.length_drop]
  omega
theorem s_slice {z : Bool} {a : Expr} {lo hi : Option Expr} {ma : E} {ml mh : Eo} {p2 : Pos} (hK : X.K = Z.K) (ha : PE X a (tE Z W D ma)) (hl : PO X lo (tEo Z W D ml)) (hh : PO X hi (tEo Z W D mh)) :
    PE X (.Subscript a (.Slice lo hi none p2) pos) (tE Z W D (.slice z ma ml mh)) := by
  refine PEw (pe_slice sl_all ha hl hh) fun σ H Q ⟨ρ, fr, h, F, R, P⟩ => ⟨ρ, fr, h, F, R, ?_⟩
  refine (Post.bind P).imp fun v h1 ρ1 H1 e1 r1 p1 vv rv => ⟨ρ1, fr, h1, F.ext e1, r1, ?_⟩
  refine (Post.bind p1).imp fun l h2 ρ2 H2 e2 r2 p2 => ⟨ρ2, fr, h2, (F.ext e1).ext e2, r2, ?_⟩
  refine (Post.bind p2).imp fun u h3 ρ3 H3 e3 r3 p3 => ?_
  have rv3 := (rv.ext e2).ext e3
  rw [hK]
  have lists : ∀ (s : List MV), listOf v h3 = some s → Post Z W ρ3 H3 σ (newL z (subL s (cutL (l.getD 0) s.length) (hiCut u s.length)) h3) (fun v _ ρ' H' => ∀ vv, RV Z ρ' H' v vv → Q vv H') → slAll Z.K vv l u H3 Q := by
    intro s hs p
    obtain ⟨a0, vs, rfl, hq, rs⟩ := list_of r3 rv3 hs
    refine .inl ⟨a0, vs, rfl, hq, ?_⟩
    rw [cutV_eq, ← rs.length]
    exact (post_newL r3 (rs.sub _ _) p).2
  cases v <;> try exact False.elim p3
  case str s =>
    obtain ⟨rfl, ks⟩ := rv3.str
    refine .inr (.inr ⟨S8 s, rfl, okS_sz ks, ?_⟩)
    have : cutS (S8 s) l u = S8 (subL s (cutL (l.getD 0) s.length) (hiCut u s.length)) := by
      unfold cutS subL
      rw [cut_lo, cut_hi, S8_len]
      rfl
    rw [this]
    exact p3 ρ3 H3 Ext.refl r3 _ (RV.mkStr (okS_sub ks _ _))
  case tup s =>
    obtain ⟨a0, vs, rfl, hq, rs⟩ := rv3.tupAt
    refine .inr (.inl ⟨a0, vs, rfl, hq.sq, fun hw => ?_, fun _ p hp => ?_⟩)
    · refine p3 ρ3 H3 Ext.refl r3 _ ?_
      have e : subL s (cutL (l.getD 0) s.length) (hiCut u s.length) = s := by
        rw [← rs.length, cut_lo, cut_hi] at hw
        rw [hw.1, hw.2]
        unfold subL
        simp
      rw [e]
      exact rv3
    · refine p3 ρ3 _ (Ext.fresh hp) (r3.fresh hp) _ ?_
      simp only [RV]
      refine ⟨p, _, rfl, .inl upd_same, ?_⟩
      rw [cutV_eq, ← rs.length]
      exact (rs.sub _ _).ext (Ext.fresh hp)
  case ref m =>
    have p3' : Post Z W ρ3 H3 σ (match listOf (.ref m) h3 with | some s => newL z (subL s (cutL (l.getD 0) s.length) (hiCut u s.length)) h3 | none => G.R.no) (fun v _ ρ' H' => ∀ vv, RV Z ρ' H' v vv → Q vv H') := p3
    cases q : listOf (.ref m) h3 with
    | none => rw [q] at p3'; exact p3'.elim
    | some s => rw [q] at p3'; exact lists s q p3'
  case frl s => exact lists s rfl p3
  case wrl s => exact lists s rfl p3
/-- xs[::-1] -/
theorem s_rev {z : Bool} {a : Expr} {ma : E} {k : Nat} {q1 q2 q3 : Pos} (hK : X.K = Z.K) (ha : PE X a (tE Z W D ma)) : PE X (.Subscript a (.Slice none none (some (.UnaryOp .USub (.Constant (.int 1) k q1) q2)) q3) pos) (tE Z W D (.rev z ma)) := by
  refine PEw (pe_revL ha) fun σ H Q ⟨ρ, fr, h, F, R, P⟩ => ⟨ρ, fr, h, F, R, ?_⟩
  refine (Post.bind P).imp fun v h1 ρ1 H1 e1 r1 p1 vv rv => ?_
  cases q : listOf v h1 with
  | none => rw [q] at p1; exact p1.elim
  | some s =>
    obtain ⟨a0, vs, rfl, hq, rs⟩ := list_of r1 rv q
    rw [q] at p1
    exact ⟨a0, vs, rfl, hK ▸ hq, (post_newL r1 rs.rev p1).2⟩
/-! ### built-in functions -/
theorem s_callG {cs : Expr} {z : Bool} {b : Bi} {r : List V → Hp → VK → Prop} {t : TE} {es : List Expr} {ms : Es} (hc : PE X cs (tCB r (tEs Z W D ms)))
    (hr : ∀ vs vvs h ρ H σ Q, HR Z ρ h H → RVs Z ρ H vs vvs → Post Z W ρ H σ (biM z b vs h) (fun v _ ρ' H' => ∀ vv, RV Z ρ' H' v vv → Q vv H') → r vvs H Q) : PE X cs (tE Z W D (.bi z b ms)) := by
  refine PEw hc fun σ H Q ⟨ρ, fr, h, F, R, P⟩ => ⟨ρ, fr, h, F, R, ?_⟩
  exact (Post.bind P).imp fun vs h1 ρ1 H1 e1 r1 p1 vvs rvs => hr vs vvs h1 ρ1 H1 σ Q r1 rvs p1
theorem RVs.one_of {v : MV} {vvs : List V} (r : RVs Z ρ H [v] vvs) : ∃ vv, vvs = [vv] ∧ RV Z ρ H v vv := by
  simp only [RVs] at r
  obtain ⟨w, t, rfl, h, e⟩ := r
  exact ⟨w, by rw [e], h⟩
def rLen (K : PySem.W.Frag) : List V → Hp → VK → Prop := fun xs H Q =>
  (∃ p ys, xs = [.ref p] ∧ (SqL K H p ys ∨ SqT K H p ys) ∧ Q (.int ys.length) H) ∨ (∃ z : PySem.Str, xs = [.str z] ∧ z.length ≤ sizeLine ∧ Q (.int z.length) H)
theorem c_len : CallR X (.builtin "len") (rLen X.K) := call_len_seq.or call_len_str
theorem r_len {z : Bool} {vs : List MV} {vvs : List V} {Q : VK} (R : HR Z ρ h H) (rs : RVs Z ρ H vs vvs) (p : Post Z W ρ H σ (biM z .len vs h) fun v _ ρ' H' => ∀ vv, RV Z ρ' H' v vv → Q vv H') : rLen Z.K vvs H Q := by
  match vs, rs, p with
  | [], rs, p => exact False.elim p
  | _ :: _ :: _, rs, p => exact False.elim p
  | [v], rs, p =>
    obtain ⟨vv, rfl, rv⟩ := rs.one_of
    have p' : Post Z W ρ H σ (match lenM v h with | some n => G.R.ok (.int n) h | none => G.R.no) (fun v _ ρ' H' => ∀ vv, RV Z ρ' H' v vv → Q vv H') := p
    cases v with
    | str s =>
      obtain ⟨rfl, k⟩ := rv.str
      refine .inr ⟨_, rfl, okS_sz k, ?_⟩
      rw [S8_len]
      exact p' ρ H Ext.refl R _ (RV.mkInt _)
    | tup xs =>
      obtain ⟨a, ys, rfl, hq, rs⟩ := rv.tupAt
      refine .inl ⟨a, ys, rfl, .inr hq.sq, ?_⟩
      rw [← rs.length]
      exact p' ρ H Ext.refl R _ (RV.mkInt _)
    | frl xs =>
      obtain ⟨a, ys, rfl, hq, rs⟩ := rv.frlAt
      refine .inl ⟨a, ys, rfl, .inl hq.sq, ?_⟩
      rw [← rs.length]
      exact p' ρ H Ext.refl R _ (RV.mkInt _)
    | wrl xs =>
      obtain ⟨a, ys, rfl, hq, rs⟩ := rv.wrlAt
      refine .inl ⟨a, ys, rfl, .inl hq.sq, ?_⟩
      rw [← rs.length]
      exact p' ρ H Ext.refl R _ (RV.mkInt _)
    | ref m =>
      cases q : h.get m with
      | none => simp only [lenM, q] at p'; exact p'.elim
      | some o =>
        cases o with
        | lst xs =>
          simp only [lenM, q] at p'
          obtain ⟨a, ys, rfl, _, hq, rs⟩ := R.lst q rv
          refine .inl ⟨a, ys, rfl, .inl (SqL.of hq), ?_⟩
          rw [← rs.length]
          exact p' ρ H Ext.refl R _ (RV.mkInt _)
        | _ => simp only [lenM, q] at p'; exact p'.elim
    | _ => exact False.elim p'
theorem r_list {z : Bool} {vs : List MV} {vvs : List V} {Q : VK} (R : HR Z ρ h H) (rs : RVs Z ρ H vs vvs) (p : Post Z W ρ H σ (biM z .list vs h) fun v _ ρ' H' => ∀ vv, RV Z ρ' H' v vv → Q vv H') :
    ∃ p ys, vvs = [.ref p] ∧ (SqL Z.K H p ys ∨ SqT Z.K H p ys) ∧ ∀ l, H l = none → Q (.ref l) (upd H l (.lst ys)) := by
  match vs, rs, p with
  | [], rs, p => exact False.elim p
  | _ :: _ :: _, rs, p => exact False.elim p
  | [v], rs, p =>
    obtain ⟨vv, rfl, rv⟩ := rs.one_of
    have p' : Post Z W ρ H σ (match seqOf v h with | some xs => newL z xs h | none => G.R.no) (fun v _ ρ' H' => ∀ vv, RV Z ρ' H' v vv → Q vv H') := p
    cases q : seqOf v h with
    | none => rw [q] at p'; exact p'.elim
    | some xs =>
      rw [q] at p'
      obtain ⟨a, ys, rfl, hq, rs⟩ := seq_of R rv q
      exact ⟨a, ys, rfl, hq, (post_newL R rs p').2⟩
theorem r_int {z : Bool} {vs : List MV} {vvs : List V} {Q : VK} (R : HR Z ρ h H) (rs : RVs Z ρ H vs vvs) (p : Post Z W ρ H σ (biM z .int vs h) fun v _ ρ' H' => ∀ vv, RV Z ρ' H' v vv → Q vv H') :
    (∃ i, vvs = [.int i] ∧ Q (.int i) H) ∨ ∃ k, vvs = [.bl k] ∧ Q (.int (if k then 1 else 0)) H := by
  match vs, rs, p with
  | [], rs, p => exact False.elim p
  | _ :: _ :: _, rs, p =>
    rename_i v0 _ _
    cases v0 <;> exact False.elim p
  | [v], rs, p =>
    obtain ⟨vv, rfl, rv⟩ := rs.one_of
    cases v <;> try exact False.elim p
    · exact .inr ⟨_, by rw [rv.bl], p ρ H Ext.refl R _ (RV.mkInt _)⟩
    · exact .inl ⟨_, by rw [rv.int], p ρ H Ext.refl R _ (RV.mkInt _)⟩
theorem bls_of : ∀ {xs : List MV} {bs : List Bool} {vs : List V}, blsM xs = some bs → RVs Z ρ H xs vs → vs = bs.map V.bl
  | [], bs, vs, e, r => by
    cases (Option.some.inj e)
    simpa only [RVs, List.map_nil] using r
  | x :: xs, bs, vs, e, r => by
    simp only [RVs] at r
    obtain ⟨w, t, rfl, h1, h2⟩ := r
    cases x <;> try (simp [blsM] at e; done)
    simp only [blsM] at e
    cases q : blsM xs with
    | none => rw [q] at e; cases e
    | some cs =>
      rw [q] at e
      rw [← Option.some.inj e, bls_of q h2, h1.bl]
      rfl
theorem r_all {z : Bool} {b : Bi} {g : List Bool → Bool} {vs : List MV} {vvs : List V} {Q : VK} (hb : ∀ v h, biM z b [v] h = match listOf v h with | some xs => (match blsM xs with | some bs => G.R.ok (.bl (g bs)) h | none => G.R.no) | none => G.R.no)
    (hn : ∀ vs h, (∀ v, vs ≠ [v]) → biM z b vs h = G.R.no)
    (R : HR Z ρ h H) (rs : RVs Z ρ H vs vvs) (p : Post Z W ρ H σ (biM z b vs h) fun v _ ρ' H' => ∀ vv, RV Z ρ' H' v vv → Q vv H') : ∃ (a : Addr) (bs : List Bool), vvs = [V.ref a] ∧ SqL Z.K H a (bs.map V.bl) ∧ Q (.bl (g bs)) H := by
  match vs, rs, p with
  | [], rs, p => rw [hn [] h (by simp)] at p; exact p.elim
  | v :: w :: r, rs, p => rw [hn _ h (by simp)] at p; exact p.elim
  | [v], rs, p =>
    obtain ⟨vv, rfl, rv⟩ := rs.one_of
    rw [hb] at p
    cases q : listOf v h with
    | none => rw [q] at p; exact p.elim
    | some xs =>
      simp only [q] at p
      cases q2 : blsM xs with
      | none => simp only [q2] at p; exact p.elim
      | some bs =>
        simp only [q2] at p
        obtain ⟨a, ys, rfl, hq, rs⟩ := list_of R rv q
        refine ⟨a, bs, rfl, by rw [← bls_of q2 rs]; exact hq, ?_⟩
        exact p ρ H Ext.refl R _ (RV.mkBl _)
def biName : Bi → Option PySem.Str
  | .len => some "len"
  | .list => some "list"
  | .int => some "int"
  | .all => some "all"
  | .any => some "any"
  | _ => none
theorem s_bi {z : Bool} {b : Bi} {es : List Expr} {ms : Es} {x : PySem.Str} {p1 : Pos} {e : Expr} (hK : X.K = Z.K) (hc : X.calm = true) (hx : biName b = some x)
    (hg : Gl X x) (hm : X.mg x = none) (ha : PA X (e :: es) (tEs Z W D ms))
    (he : starEach (e :: es) X.env = (false, eval e X.env) :: starEach es X.env) (hpl : (backTo pos (starEach es X.env)).any (·.1) = false) : PE X (.Call (.Name x p1) (e :: es) [] pos) (tE Z W D (.bi z b ms)) := by
  cases b with
  | len =>
    cases (Option.some.inj hx)
    exact s_callG (t := tC .non) (es := []) (pe_callB c_len hg hm (by with_unfolding_all rfl) ha (by decide) (by decide) he hpl) fun vs vvs h ρ H σ Q R rs p => by rw [hK]; exact r_len R rs p
  | list =>
    cases (Option.some.inj hx)
    exact s_callG (t := tC .non) (es := []) (pe_callTy call_list_of hg hm (by with_unfolding_all rfl) ha (by decide) (by decide) he hpl) fun vs vvs h ρ H σ Q R rs p => by rw [hK]; exact r_list R rs p
  | int =>
    cases (Option.some.inj hx)
    exact s_callG (t := tC .non) (es := []) (pe_callTy call_int1 hg hm (by with_unfolding_all rfl) ha (by decide) (by decide) he hpl) fun vs vvs h ρ H σ Q R rs p => r_int R rs p
  | all =>
    cases (Option.some.inj hx)
    exact s_callG (t := tC .non) (es := []) (pe_callB (cr_all hc) hg hm (by with_unfolding_all rfl) ha (by decide) (by decide) he hpl) fun vs vvs h ρ H σ Q R rs p => by
      unfold rAll
      rw [hK]
      refine r_all (fun v h => rfl) (fun vs h n => ?_) R rs p
      match vs, n with
      | [], _ => rfl
      | [v], n => exact absurd rfl (n v)
      | _ :: _ :: _, _ => rfl
  | any =>
    cases (Option.some.inj hx)
    exact s_callG (t := tC .non) (es := []) (pe_callB (cr_any hc) hg hm (by with_unfolding_all rfl) ha (by decide) (by decide) he hpl) fun vs vvs h ρ H σ Q R rs p => by
      unfold rAny
      rw [hK]
      refine r_all (fun v h => rfl) (fun vs h n => ?_) R rs p
      match vs, n with
      | [], _ => rfl
      | [v], n => exact absurd rfl (n v)
      | _ :: _ :: _, _ => rfl
  | _ => cases hx
end
end G
set_option Elab.async false
set_option linter.all false
set_option maxRecDepth 100000
set_option maxHeartbeats 1000000
/-! Statements, targets, loops. -/
namespace G
open PySem PySem.Spec PyProof.Rows L2
def W0 : WX := fun _ _ _ _ => False
section
variable {Z : Stat} {W : WX} {D : Ds} {X : Cx} {pos : Pos} {ρ ρ' : Rho} {H H' : Hp} {σ σ' : L2.St} {h : MHp} {α β : Type}
theorem Post.ofW0 {r : R α} {Q : α → MHp → Rho → Hp → Prop} (p : Post Z W0 ρ H σ' r Q) : Post Z W ρ H σ r Q := by
  cases r with
  | ok a h' => exact p
  | ex e h' => exact fun ρ1 H1 cls d e1 r1 x => (p ρ1 H1 cls d e1 r1 x).elim
  | no => exact p
def EndC (Z : Stat) (W : WX) (De : Ends) (ρ : Rho) (H : Hp) (c : Ctl) : Prop := match c with
  | .nx fr => ∀ σ, FR Z ρ H fr σ → De.nx σ H
  | .bk fr => ∀ σ, FR Z ρ H fr σ → De.bk σ H
  | .ct fr => ∀ σ, FR Z ρ H fr σ → De.ct σ H
  | .rt v => ∀ vv, RV Z ρ H v vv → De.rt vv H
  | .xx e fr => ∀ σ cls d, FR Z ρ H fr σ → ExcRel Z ρ H e cls d → W cls d σ H
def PostC (Z : Stat) (W : WX) (ρ : Rho) (H : Hp) (De : Ends) (r : R Ctl) : Prop := match r with
  | .ok c h' => ∀ ρ' H', Ext ρ H ρ' H' → HR Z ρ' h' H' → EndC Z W De ρ' H' c
  | _ => False
theorem PostC.later {De : Ends} {r : R Ctl} (p : PostC Z W ρ H De r) (e : Ext ρ H ρ' H') : PostC Z W ρ' H' De r := by
  cases r with
  | ok c h' => exact fun ρ2 H2 e2 r2 => p ρ2 H2 (e.trans e2) r2
  | ex x h' => exact p
  | no => exact p
theorem PostC.lift {De : Ends} {x : R α} {fr : Fr} {k : α → MHp → R Ctl} (F : FR Z ρ H fr σ) (p : PostC Z W ρ H De (x.lift fr k)) : Post Z W ρ H σ x (fun a h1 ρ1 H1 => PostC Z W ρ1 H1 De (k a h1)) := by
  cases x with
  | ok a h' => exact fun ρ1 H1 e1 _ => PostC.later p e1
  | ex e h' => exact fun ρ1 H1 cls d e1 r1 x => p ρ1 H1 e1 r1 σ cls d (F.ext e1) x
  | no => exact p
theorem PostC.calm {De : Ends} {x : R α} {k : α → MHp → R Ctl} (p : PostC Z W ρ H De (x.calm k)) : Post Z W0 ρ H σ x (fun a h1 ρ1 H1 => PostC Z W ρ1 H1 De (k a h1)) := by
  cases x with
  | ok a h' => exact fun ρ1 H1 e1 _ => PostC.later p e1
  | ex e h' => exact p.elim
  | no => exact p
theorem Post.calm {x : R α} {k : α → MHp → R β} {Q : β → MHp → Rho → Hp → Prop} (p : Post Z W ρ H σ (x.calm k) Q) : Post Z W0 ρ H σ' x (fun a h1 ρ1 H1 => Post Z W ρ1 H1 σ (k a h1) Q) := by
  cases x with
  | ok a h' => exact fun ρ1 H1 e1 _ => Post.later p e1
  | ex e h' => exact p.elim
  | no => exact p
/-- an end, and then .. -/
theorem PostC.seq {De De' : Ends} {x : R Ctl} {k : Ctl → MHp → R Ctl} (p : PostC Z W ρ H De (x.calm k))
    (f : ∀ c h1 ρ1 H1, HR Z ρ1 h1 H1 → PostC Z W ρ1 H1 De (k c h1) → EndC Z W De' ρ1 H1 c) : PostC Z W ρ H De' x := by
  cases x with
  | ok c h' => exact fun ρ1 H1 e1 r1 => f c h' ρ1 H1 r1 (PostC.later p e1)
  | ex e h' => exact p.elim
  | no => exact p
theorem PostC.now {De : Ends} {c : Ctl} (R : HR Z ρ h H) (p : PostC Z W ρ H De (.ok c h)) : EndC Z W De ρ H c := p ρ H Ext.refl R
theorem FR.set {fr : Fr} {i : Nat} {x : MV} {v : V} (F : FR Z ρ H fr σ) (r : RV Z ρ H x v) : FR Z ρ H (fr.set i (some x)) (σ.set i (some v)) := by
  refine ⟨by simp [F.len], fun j y e => ?_⟩
  unfold Fr.at at e
  by_cases hj : i = j
  · subst hj
    by_cases hl : i < fr.length
    · rw [List.getElem?_set_self hl] at e
      cases e
      exact ⟨v, List.getElem?_set_self (by rw [← F.len]; exact hl), r⟩
    · rw [List.getElem?_eq_none (by simpa using hl)] at e
      cases e
  · rw [List.getElem?_set_ne hj] at e ⊢
    exact F.at_ j y e
theorem FR.wipe {fr : Fr} (F : FR Z ρ H fr σ) : ∀ vs : List Nat, FR Z ρ H (wipeF fr vs) (wipe σ vs)
  | [] => F
  | v :: vs => by
    have ih := FR.wipe F vs
    refine ⟨by show ((wipeF fr vs).set v none).length = ((L2.wipe σ vs).set v none).length; simp [ih.len], fun j y e => ?_⟩
    unfold wipeF at e
    unfold Fr.at at e
    rw [show L2.wipe σ (v :: vs) = (L2.wipe σ vs).set v none from rfl]
    by_cases hj : v = j
    · subst hj
      by_cases hl : v < (wipeF fr vs).length
      · rw [List.getElem?_set_self hl] at e
        cases e
      · rw [List.getElem?_eq_none (by simpa using hl)] at e
        cases e
    · rw [List.getElem?_set_ne hj] at e ⊢
      exact ih.at_ j y e
end
/-! ### targets -/
variable (Z : Stat) (W : WX) (D : Ds)
def tG (m : Tg) : TG := fun v σ H Q => ∃ ρ fr h x, FR Z ρ H fr σ ∧ HR Z ρ h H ∧ RV Z ρ H x v ∧ Post Z W0 ρ H [] (evT D m x fr h) fun fr' _ ρ' H' => ∀ σ', FR Z ρ' H' fr' σ' → Q σ' H'
def tGs (m : Tgs) : TGs := fun vs σ H Q => ∃ ρ fr h xs, FR Z ρ H fr σ ∧ HR Z ρ h H ∧ RVs Z ρ H xs vs ∧ Post Z W0 ρ H [] (evTs D m xs fr h) fun fr' _ ρ' H' => ∀ σ', FR Z ρ' H' fr' σ' → Q σ' H'
def tS (m : S) : TS := fun De σ H => ∃ ρ fr h, FR Z ρ H fr σ ∧ HR Z ρ h H ∧ PostC Z W ρ H De (exS D m fr h)
def tSs (m : Ss) : TS := fun De σ H => ∃ ρ fr h, FR Z ρ H fr σ ∧ HR Z ρ h H ∧ PostC Z W ρ H De (exSs D m fr h)
section
variable {Z : Stat} {W : WX} {D : Ds} {X : Cx} {pos : Pos} {ρ ρ' : Rho} {H H' : Hp} {σ σ' : L2.St} {h : MHp} {α : Type}
theorem PGw {e : Expr} {t t' : TG} (h : PG X e t) (i : ∀ v σ H Q, t' v σ H Q → t v σ H Q) : PG X e t' := ⟨fun pins s σ H v u Q I r q => h.run pins s σ H v u Q I r (i _ _ _ _ q)⟩
theorem PGsw {e : List Expr} {t t' : TGs} (h : PGs X e t) (i : ∀ v σ H Q, t' v σ H Q → t v σ H Q) : PGs X e t' := ⟨fun pins s σ H v u Q I r q => h.run pins s σ H v u Q I r (i _ _ _ _ q)⟩
theorem PSsw {e : List Stmt} {t t' : TS} (h : PSs X e t) (i : ∀ D σ H, t' D σ H → t D σ H) : PSs X e t' := ⟨fun pins s σ H Q I q => h.run pins s σ H Q I (i _ _ _ q)⟩
theorem g_name {i : Nat} {x : PySem.Str} (hN : X.N.Nodup) (hi : X.N[i]? = some x) (hx : Loc X.env.scope x) (hf : X.fn x = true ∨ X.env.scope.names.lookup x = some .local) : PG X (.Name x pos) (tG Z D (.v i)) := by
  refine PGw (pg_name hN hi hx hf) fun v σ H Q ⟨ρ, fr, h, x, F, R, rv, P⟩ => ?_
  exact P ρ H Ext.refl R _ (F.set rv)
theorem gs_nil : PGs X [] (tGs Z D .nil) := by
  refine PGsw pgs_nil fun vs σ H Q ⟨ρ, fr, h, xs, F, R, rv, P⟩ => ?_
  cases xs with
  | nil => exact ⟨by simpa only [RVs] using rv, P ρ H Ext.refl R σ F⟩
  | cons x xs => exact P.elim
theorem gs_cons {e : Expr} {es : List Expr} {m : Tg} {ms : Tgs} (h1 : PG X e (tG Z D m)) (h2 : PGs X es (tGs Z D ms)) (hs : (assignEach (e :: es) X.env).map (·.2) = assign e X.env :: (assignEach es X.env).map (·.2)) : PGs X (e :: es) (tGs Z D (.cons m ms)) := by
  refine PGsw (pgs_cons h1 h2 hs) fun vs σ H Q ⟨ρ, fr, h, xs, F, R, rv, P⟩ => ?_
  cases xs with
  | nil => exact P.elim
  | cons x xs =>
    simp only [RVs] at rv
    obtain ⟨v, r, rfl, rv1, rv2⟩ := rv
    refine ⟨v, r, rfl, ρ, fr, h, x, F, R, rv1, ?_⟩
    exact (Post.bind P).imp fun fr' h1 ρ1 H1 e1 r1 p1 σ1 F1 => ⟨ρ1, fr', h1, xs, F1, r1, rv2.ext e1, p1⟩
theorem asgEach_len {env : Env} : ∀ es : List Expr, (assignEach es env).length = es.length
  | [] => by simp [assignEach]
  | e :: es => by cases e <;> simp [assignEach, asgEach_len es]
theorem g_tup {es : List Expr} {ms : Tgs} {k : Nat} (hK : X.K = Z.K) (hc : X.calm = true) (h : PGs X es (tGs Z D ms)) (hn : es.length = tgsN ms) (hst : (assignEach es X.env).findIdx? (·.1) = none) : PG X (.Tuple es k pos) (tG Z D (.tup ms)) := by
  refine PGw (pg_tup (n := tgsN ms) hc h (by rw [asgEach_len, hn]) hst) fun v σ H Q ⟨ρ, fr, h, x, F, R, rv, P⟩ => ?_
  cases x <;> try exact False.elim P
  rename_i xs
  obtain ⟨a, vs, rfl, hq, rs⟩ := rv.tupAt
  have P' : Post Z W0 ρ H [] (if xs.length = tgsN ms then evTs D ms xs fr h else G.R.no) (fun fr' _ ρ' H' => ∀ σ', FR Z ρ' H' fr' σ' → Q σ' H') := P
  by_cases hl : xs.length = tgsN ms
  · rw [if_pos hl] at P'
    exact ⟨a, vs, rfl, hK ▸ hq.sq, by rw [← rs.length]; exact hl, ρ, fr, h, xs, F, R, rs, P'⟩
  · rw [if_neg hl] at P'
    exact P'.elim
theorem g_sub {o i : Expr} {mo mi : E} (ho : PE X o (tE Z W D mo)) (hi : PE X i (tE Z W D mi)) (ha : ∀ v, assign (.Subscript o i pos) X.env v = (do
      let ov ← holding [v] (eval o X.env)
      let iv ← holding [v, ov] (eval i X.env)
      standAt pos
      holding [v, ov, iv] (setItem ov iv v)
      release [v, ov, iv] [])) : PG X (.Subscript o i pos) (tG Z D (.sub mo mi)) := by
  refine PGw (pg_sub ho hi set_list ha) fun v σ H Q ⟨ρ, fr, h, x, F, R, rv, P⟩ => ⟨ρ, fr, h, F, R, ?_⟩
  refine (Post.ofW0 (Post.bind P)).imp fun ov h1 ρ1 H1 e1 r1 p1 oo ro => ⟨ρ1, fr, h1, F.ext e1, r1, ?_⟩
  refine (Post.ofW0 (Post.bind p1)).imp fun iv h2 ρ2 H2 e2 r2 p2 ii ri => ?_
  have p3 := Post.bind p2
  cases ov <;> try exact False.elim p3
  rename_i m
  cases iv <;> try exact False.elim p3
  rename_i k
  have p4 : Post Z W0 ρ2 H2 [] (match h2.get m with | some (.lst xs) => (match placeI k xs.length with | some j => G.R.ok () (h2.set m (.lst (xs.set j x))) | none => G.R.no) | _ => G.R.no) (fun _ h' ρ' H' => Post Z W0 ρ' H' [] (G.R.ok fr h') (fun fr' _ ρ'' H'' => ∀ σ', FR Z ρ'' H'' fr' σ' → Q σ' H'')) := p3
  cases q : h2.get m with
  | none => rw [q] at p4; exact p4.elim
  | some o2 =>
    rw [q] at p4
    cases o2 <;> try exact False.elim p4
    rename_i xs
    dsimp only at p4
    cases q2 : placeI k xs.length with
    | none => rw [q2] at p4; exact p4.elim
    | some j =>
      rw [q2] at p4
      obtain ⟨a, vs, rfl, hm, ha, rs⟩ := r2.lst q (ro.ext e2)
      have rv2 := (rv.ext e1).ext e2
      refine ⟨a, vs, k, j, rfl, ri.int, ha, by rw [← place_eq, ← rs.length]; exact q2, ?_⟩
      have ex0 : Ext ρ2 H2 ρ2 (upd H2 a (.lst (vs.set j v))) := r2.setExt (u := .lst (vs.set j v)) q hm
      obtain ⟨hr, ex⟩ := r2.set (o' := .lst (xs.set j x)) (u := .lst (vs.set j v)) q hm ⟨_, upd_same, (rs.ext ex0).set j (rv2.ext ex0)⟩
      exact p4 ρ2 _ ex hr ρ2 _ Ext.refl hr σ (((F.ext e1).ext e2).ext ex)
/-! ### statements -/
theorem s_expr {e : Expr} {m : E} (he : PE X e (tE Z W D m)) (hs : swapsWith e none pos.line X.env = pure false) : PS X (.Expr e pos) (tS Z W D (.expr m)) := by
  refine PSw (ps_expr he hs) fun De σ H ⟨ρ, fr, h, F, R, P⟩ => ⟨ρ, fr, h, F, R, ?_⟩
  exact (PostC.lift F P).imp fun v h1 ρ1 H1 e1 r1 p1 vv rv => p1.now r1 σ (F.ext e1)
theorem asg_w {e : E} {t : Tg} {De : Ends} {σ : L2.St} {H : Hp} (q : tS Z W D (.asg t e) De σ H) : tAsg (tE Z W D e) (tG Z D t) De σ H := by
  obtain ⟨ρ, fr, h, F, R, P⟩ := q
  refine ⟨ρ, fr, h, F, R, ?_⟩
  refine (PostC.lift F P).imp fun v h1 ρ1 H1 e1 r1 p1 vv rv => ⟨ρ1, fr, h1, v, F.ext e1, r1, rv, ?_⟩
  exact (PostC.calm (σ := []) p1).imp fun fr' h2 ρ2 H2 e2 r2 p2 => p2.now r2
theorem s_asg {tg e : Expr} {m : E} {t : Tg} (he : PE X e (tE Z W D m)) (hg : PG X tg (tG Z D t)) (hs : swapsWithSole [tg] e pos.line X.env = pure false) (hw : swappedStores [tg] e X.env = pure none)
    (h1 : (assignEach [tg] X.env).map (·.2) = [assign tg X.env]) : PS X (.Assign [tg] e pos) (tS Z W D (.asg t m)) := PSw (ps_asg he hg hs hw h1) fun De σ H q => asg_w q
theorem s_set {i : Nat} {x : PySem.Str} {e : Expr} {m : E} {pos' : Pos} (hN : X.N.Nodup) (hi : X.N[i]? = some x) (hx : Loc X.env.scope x) (he : PE X e (tE Z W D m)) (hs : swapsWith e (some (.Name x pos')) pos.line X.env = pure false) (hf : X.fn x = true ∨ X.env.scope.names.lookup x = some .local) :
    PS X (.Assign [.Name x pos'] e pos) (tS Z W D (.asg (.v i) m)) := by
  refine PSw (ps_set hN hi hx he hs hf) fun De σ H ⟨ρ, fr, h, F, R, P⟩ => ⟨ρ, fr, h, F, R, ?_⟩
  refine (PostC.lift F P).imp fun v h1 ρ1 H1 e1 r1 p1 vv rv => ?_
  exact p1.now r1 _ ((F.ext e1).set rv)
theorem s_if {c : Expr} {a b : List Stmt} {mc : E} {ma mb : Ss} (hc : PT X c (tTst Z W D mc)) (ha : PSs X a (tSs Z W D ma)) (hb : PSs X b (tSs Z W D mb)) : PS X (.If c a b pos) (tS Z W D (.ite mc ma mb)) := by
  refine PSw (ps_if hc ha hb) fun De σ H ⟨ρ, fr, h, F, R, P⟩ => ⟨ρ, fr, h, F, R, ?_⟩
  refine (PostC.lift F P).imp fun v h1 ρ1 H1 e1 r1 p1 => ?_
  cases v with
  | true => exact ⟨ρ1, fr, h1, F.ext e1, r1, p1⟩
  | false => exact ⟨ρ1, fr, h1, F.ext e1, r1, p1⟩
theorem s_ret {e : Expr} {m : E} (he : PE X e (tE Z W D m)) : PS X (.Return (some e) pos) (tS Z W D (.ret (.some m))) := by
  refine PSw (ps_ret he) fun De σ H ⟨ρ, fr, h, F, R, P⟩ => ⟨ρ, fr, h, F, R, ?_⟩
  exact (PostC.lift F P).imp fun v h1 ρ1 H1 e1 r1 p1 vv rv => p1.now r1 vv rv
theorem s_retN : PS X (.Return none pos) (tS Z W D (.ret .none)) := PSw ps_retN fun De σ H ⟨ρ, fr, h, F, R, P⟩ => PostC.now R P _ RV.mkNon
theorem s_pass : PS X (.Pass pos) (tS Z W D .pass) := PSw ps_pass fun De σ H ⟨ρ, fr, h, F, R, P⟩ => PostC.now R P σ F
theorem s_brk : PS X (.Break pos) (tS Z W D .brk) := PSw ps_break fun De σ H ⟨ρ, fr, h, F, R, P⟩ => PostC.now R P σ F
theorem s_cont : PS X (.Continue pos) (tS Z W D .cont) := PSw ps_continue fun De σ H ⟨ρ, fr, h, F, R, P⟩ => PostC.now R P σ F
theorem ss_nil : PSs X [] (tSs Z W D .nil) := PSsw pss_nil fun De σ H ⟨ρ, fr, h, F, R, P⟩ => PostC.now R P σ F
theorem ss_cons {s : Stmt} {r : List Stmt} {m : S} {ms : Ss} (h1 : PS X s (tS Z W D m)) (h2 : PSs X r (tSs Z W D ms)) : PSs X (s :: r) (tSs Z W D (.cons m ms)) := by
  refine PSsw (pss_cons h1 h2) fun De σ H ⟨ρ, fr, h, F, R, P⟩ => ⟨ρ, fr, h, F, R, ?_⟩
  refine PostC.seq P fun c h1 ρ1 H1 r1 p1 => ?_
  cases c with
  | nx fr1 => exact fun σ1 F1 => ⟨ρ1, fr1, h1, F1, r1, p1⟩
  | rt v => exact p1.now r1
  | bk fr => exact p1.now r1
  | ct fr => exact p1.now r1
  | xx e fr => exact p1.now r1
/-! ### loops -/
structure SrcIt (Z : Stat) (src : Src) (J : L2.It) (ρ1 : Rho) (H1 : Hp) : Prop where
  stop : ∀ ρ H h i, Ext ρ1 H1 ρ H → HR Z ρ h H → src.item i h = some none → J.stop i H
  go : ∀ ρ H h i x, Ext ρ1 H1 ρ H → HR Z ρ h H → src.item i h = some (some x) → J.go i H ∧ ∀ v H', J.yld i H v H' → Ext ρ H ρ H' ∧ HR Z ρ h H' ∧ RV Z ρ H' x v
theorem SrcIt.ext {src : Src} {J : L2.It} (S : SrcIt Z src J ρ H) (e : Ext ρ H ρ' H') : SrcIt Z src J ρ' H' :=
  ⟨fun ρ2 H2 h i e2 => S.stop ρ2 H2 h i (e.trans e2), fun ρ2 H2 h i x e2 => S.go ρ2 H2 h i x (e.trans e2)⟩
def tI (Z : Stat) (W : WX) (D : Ds) (m : G.It) : TI := fun σ H Q => ∃ ρ fr h, FR Z ρ H fr σ ∧ HR Z ρ h H ∧ Post Z W ρ H σ (evI D m fr h) fun src _ ρ' H' => ∀ J, SrcIt Z src J ρ' H' → Q J H'
theorem PIc {tg iter : Expr} {t' : TI} (h : ∀ σ H Q, t' σ H Q → ∃ t, PI X tg iter t ∧ t σ H Q) : PI X tg iter t' := ⟨fun pins s σ H R I q => let ⟨t, h1, h2⟩ := h σ H R q; h1.run pins s σ H R I h2⟩
theorem PIw {tg iter : Expr} {t t' : TI} (h : PI X tg iter t) (i : ∀ σ H Q, t' σ H Q → t σ H Q) : PI X tg iter t' := ⟨fun pins s σ H Q I q => h.run pins s σ H Q I (i _ _ _ q)⟩
theorem src_live {m : Nat} {a : Addr} (ha : ρ.nm m = some a) : SrcIt Z (.live m) (Itl Z.K a) ρ H := by
  have key : ∀ ρ2 H2 h o i, Ext ρ H ρ2 H2 → HR Z ρ2 h H2 → Src.item (.live m) i h = some o → ∃ vs xs, SqL Z.K H2 a vs ∧ RVs Z ρ2 H2 xs vs ∧ o = xs[i]? := by
    intro ρ2 H2 h o i e R q
    unfold Src.item at q
    dsimp only at q
    cases q1 : listOf (.ref m) h with
    | none => rw [q1] at q; cases q
    | some xs =>
      rw [q1] at q
      have rm : RV Z ρ2 H2 (.ref m) (.ref a) := by simp only [RV]; exact ⟨a, rfl, e.ro _ _ ha⟩
      obtain ⟨b, vs, hb, hq, rs⟩ := list_of R rm q1
      cases hb
      exact ⟨vs, xs, hq, rs, (Option.some.inj q).symm⟩
  refine ⟨fun ρ2 H2 h i e R q => ?_, fun ρ2 H2 h i x e R q => ?_⟩
  · obtain ⟨vs, xs, hq, rs, ho⟩ := key ρ2 H2 h _ i e R q
    refine ⟨vs, hq, ?_⟩
    rw [← rs.length]
    exact List.getElem?_eq_none_iff.mp ho.symm
  · obtain ⟨vs, xs, hq, rs, ho⟩ := key ρ2 H2 h _ i e R q
    obtain ⟨v, hv, rv⟩ := rs.get ho.symm
    refine ⟨⟨vs, v, hq, hv⟩, fun v' H' y => ?_⟩
    obtain ⟨rfl, y⟩ := y
    have := y vs hq
    rw [hv] at this
    cases this
    exact ⟨Ext.refl, R, rv⟩
theorem src_frl {xs : List MV} {vs : List V} {a : Addr} (ha : FrlAt Z.K ρ H a vs) (rs : RVs Z ρ H xs vs) : SrcIt Z (.items xs) (Itl Z.K a) ρ H := by
  refine ⟨fun ρ2 H2 h i e R q => ?_, fun ρ2 H2 h i x e R q => ?_⟩
  · refine ⟨vs, (ha.ext e).sq, ?_⟩
    rw [← rs.length]
    exact List.getElem?_eq_none_iff.mp (Option.some.inj q)
  · obtain ⟨v, hv, rv⟩ := (rs.ext e).get (Option.some.inj q)
    refine ⟨⟨vs, v, (ha.ext e).sq, hv⟩, fun v' H' y => ?_⟩
    obtain ⟨rfl, y⟩ := y
    have := y vs (ha.ext e).sq
    rw [hv] at this
    cases this
    exact ⟨Ext.refl, R, rv⟩
theorem src_tup {xs : List MV} {vs : List V} {a : Addr} (ha : TupAt Z.K H a vs) (rs : RVs Z ρ H xs vs) : SrcIt Z (.items xs) (Itt Z.K a) ρ H := by
  refine ⟨fun ρ2 H2 h i e R q => ?_, fun ρ2 H2 h i x e R q => ?_⟩
  · refine ⟨vs, (ha.ext e).sq, ?_⟩
    rw [← rs.length]
    exact List.getElem?_eq_none_iff.mp (Option.some.inj q)
  · obtain ⟨v, hv, rv⟩ := (rs.ext e).get (Option.some.inj q)
    refine ⟨⟨vs, v, (ha.ext e).sq, hv⟩, fun v' H' y => ?_⟩
    obtain ⟨rfl, y⟩ := y
    have := y vs (ha.ext e).sq
    rw [hv] at this
    cases this
    exact ⟨Ext.refl, R, rv⟩
theorem src_str {s : List Nat} (k : okS s = true) : SrcIt Z (.items (s.map fun c => .str [c])) (Its (S8 s)) ρ H := by
  refine ⟨fun ρ2 H2 h i e R q => ?_, fun ρ2 H2 h i x e R q => ?_⟩
  · have := List.getElem?_eq_none_iff.mp (Option.some.inj q)
    simpa [Its, S8] using this
  · have q := Option.some.inj q
    rw [List.getElem?_map] at q
    cases q1 : s[i]? with
    | none => rw [q1] at q; cases q
    | some c =>
      rw [q1] at q
      have hi := (List.getElem?_eq_some_iff.mp q1).1
      refine ⟨by simpa [Its, S8] using hi, fun v' H' y => ?_⟩
      obtain ⟨rfl, c', hc, rfl⟩ := y
      have : (S8 s).cps[i]? = some c := by simpa [S8] using q1
      rw [this] at hc
      cases hc
      refine ⟨Ext.refl, R, ?_⟩
      rw [← Option.some.inj q]
      refine RV.mkStr ?_
      unfold okS at k ⊢
      simp only [Bool.and_eq_true, decide_eq_true_eq, List.all_eq_true] at k ⊢
      refine ⟨by simp [lineN], fun z hz => ?_⟩
      rw [List.mem_singleton.mp hz]
      exact k.2 c (List.mem_of_getElem? q1)
theorem src_rng {lo : Int} {n : Nat} : SrcIt Z (.items (rangeL lo n)) (Itr lo n) ρ H := by
  refine ⟨fun ρ2 H2 h i e R q => ?_, fun ρ2 H2 h i x e R q => ?_⟩
  · have := List.getElem?_eq_none_iff.mp (Option.some.inj q)
    simpa [rangeL, Itr] using this
  · have q := Option.some.inj q
    unfold rangeL at q
    rw [List.getElem?_map] at q
    cases q1 : (List.range n)[i]? with
    | none => rw [q1] at q; cases q
    | some c =>
      rw [q1] at q
      have hi := (List.getElem?_eq_some_iff.mp q1).1
      have hc : i = c := by
        have := (List.getElem?_eq_some_iff.mp q1).2
        simpa using this
      refine ⟨by simpa [Itr] using hi, fun v' H' y => ?_⟩
      obtain ⟨rfl, rfl⟩ := y
      refine ⟨Ext.refl, R, ?_⟩
      rw [← Option.some.inj q, ← hc]
      exact RV.mkInt _
theorem src_zip {xs ys : List MV} {vs ws : List V} {a b : Addr} (ha : TupAt Z.K H a vs) (rs : RVs Z ρ H xs vs) (hb : TupAt Z.K H b ws) (qs : RVs Z ρ H ys ws) : SrcIt Z (.zipT xs ys) (RZ.ItzT Z.K a b) ρ H := by
  refine ⟨fun ρ2 H2 h i e R q => ?_, fun ρ2 H2 h i x e R q => ?_⟩
  · refine ⟨vs, ws, (ha.ext e).sq, (hb.ext e).sq, ?_⟩
    unfold Src.item at q
    dsimp only at q
    cases q1 : xs[i]? with
    | none => left; rw [← rs.length]; exact List.getElem?_eq_none_iff.mp q1
    | some x =>
      cases q2 : ys[i]? with
      | none => right; rw [← qs.length]; exact List.getElem?_eq_none_iff.mp q2
      | some y => rw [q1, q2] at q; cases (Option.some.inj q)
  · unfold Src.item at q
    dsimp only at q
    cases q1 : xs[i]? with
    | none => rw [q1] at q; cases (Option.some.inj q)
    | some x1 =>
      cases q2 : ys[i]? with
      | none => rw [q1, q2] at q; cases (Option.some.inj q)
      | some y1 =>
        rw [q1, q2] at q
        obtain ⟨v, hv, rv⟩ := (rs.ext e).get q1
        obtain ⟨w, hw, rw'⟩ := (qs.ext e).get q2
        refine ⟨⟨vs, ws, v, w, (ha.ext e).sq, (hb.ext e).sq, hv, hw⟩, fun v' H' y => ?_⟩
        obtain ⟨T, x', y', rfl, hT, rfl, h1, h2⟩ := y
        have z1 := h1 vs (ha.ext e).sq
        have z2 := h2 ws (hb.ext e).sq
        rw [hv] at z1
        rw [hw] at z2
        cases z1
        cases z2
        refine ⟨Ext.fresh hT, R.fresh hT, ?_⟩
        rw [← Option.some.inj (Option.some.inj q)]
        simp only [RV]
        refine ⟨T, _, rfl, .inl upd_same, ?_⟩
        simp only [RVs]
        exact ⟨v, _, rfl, rv.ext (Ext.fresh hT), w, [], rfl, rw'.ext (Ext.fresh hT), rfl⟩
theorem i_val {tg e : Expr} {m : E} (hK : X.K = Z.K) (he : PE X e (tE Z W D m)) : PI X tg e (tI Z W D (.val m)) := by
  refine PIc fun σ H Q ⟨ρ, fr, h, F, R, P⟩ => ?_
  have P1 := Post.bind P
  cases q : evE D m fr h with
  | no => rw [q] at P1; exact P1.elim
  | ex x h1 =>
    refine ⟨_, pi_list he, ρ, fr, h, F, R, ?_⟩
    rw [q] at P1 ⊢
    exact P1
  | ok v h1 =>
    have lists : ∀ s, (∀ ρ1 H1, Ext ρ H ρ1 H1 → HR Z ρ1 h1 H1 → ∀ vv, RV Z ρ1 H1 v vv → ∃ a, vv = .ref a ∧ (∃ xs, SqL Z.K H1 a xs) ∧ SrcIt Z s (Itl Z.K a) ρ1 H1) → srcOf v h1 = some s → ∃ t, PI X tg e t ∧ t σ H Q := by
      intro s hs hv
      refine ⟨_, pi_list he, ρ, fr, h, F, R, ?_⟩
      rw [q] at P1 ⊢
      intro ρ1 H1 e1 r1 vv rv
      have p1 : Post Z W ρ1 H1 σ (G.R.get (srcOf v h1) h1) fun src _ ρ' H' => ∀ J, SrcIt Z src J ρ' H' → Q J H' := P1 ρ1 H1 e1 r1
      rw [hv] at p1
      obtain ⟨a, rfl, h2, h3⟩ := hs ρ1 H1 e1 r1 vv rv
      rw [hK]
      exact ⟨a, rfl, h2, p1 ρ1 H1 Ext.refl r1 _ h3⟩
    have dead : srcOf v h1 = none → ∃ t, PI X tg e t ∧ t σ H Q := fun hv => by
      refine ⟨_, pi_list he, ρ, fr, h, F, R, ?_⟩
      rw [q] at P1 ⊢
      intro ρ1 H1 e1 r1 vv rv
      have p1 : Post Z W ρ1 H1 σ (G.R.get (srcOf v h1) h1) fun src _ ρ' H' => ∀ J, SrcIt Z src J ρ' H' → Q J H' := P1 ρ1 H1 e1 r1
      rw [hv] at p1
      exact p1.elim
    cases v with
    | tup xs =>
      refine ⟨_, pi_tup he, ρ, fr, h, F, R, ?_⟩
      rw [q] at P1 ⊢
      intro ρ1 H1 e1 r1 vv rv
      have p1 := P1 ρ1 H1 e1 r1
      obtain ⟨a, vs, rfl, hq, rs⟩ := rv.tupAt
      rw [hK]
      exact ⟨a, rfl, ⟨vs, hq.sq⟩, p1 ρ1 H1 Ext.refl r1 _ (src_tup hq rs)⟩
    | str s =>
      refine ⟨_, pi_str he, ρ, fr, h, F, R, ?_⟩
      rw [q] at P1 ⊢
      intro ρ1 H1 e1 r1 vv rv
      have p1 := P1 ρ1 H1 e1 r1
      obtain ⟨rfl, k⟩ := rv.str
      exact ⟨_, rfl, p1 ρ1 H1 Ext.refl r1 _ (src_str k)⟩
    | frl xs =>
      refine lists (.items xs) (fun ρ1 H1 e1 r1 vv rv => ?_) rfl
      obtain ⟨a, vs, rfl, hq, rs⟩ := rv.frlAt
      exact ⟨a, rfl, ⟨vs, hq.sq⟩, src_frl hq rs⟩
    | wrl xs =>
      refine lists (.items xs) (fun ρ1 H1 e1 r1 vv rv => ?_) rfl
      obtain ⟨a, vs, rfl, hq, rs⟩ := rv.wrlAt
      exact ⟨a, rfl, ⟨vs, hq.sq⟩, src_frl hq rs⟩
    | ref m2 =>
      cases q2 : h1.get m2 with
      | none => exact dead (by unfold srcOf; dsimp only; rw [q2])
      | some o =>
        cases o with
        | lst xs =>
          refine lists (.live m2) (fun ρ1 H1 e1 r1 vv rv => ?_) (by unfold srcOf; dsimp only; rw [q2])
          obtain ⟨a, vs, rfl, ha, hq, rs⟩ := r1.lst q2 rv
          exact ⟨a, rfl, ⟨vs, SqL.of hq⟩, src_live ha⟩
        | _ => exact dead (by unfold srcOf; dsimp only; rw [q2])
    | _ => exact dead rfl
theorem args1 {ma : E} {fr : Fr} {k : MV → MHp → R α} {Q : α → MHp → Rho → Hp → Prop} (P : Post Z W ρ H σ ((evE D ma fr h).bind k) Q) : Post Z W ρ H σ (evEs D (.cons ma .nil) fr h) fun vs h1 ρ1 H1 => ∃ v, vs = [v] ∧ Post Z W ρ1 H1 σ (k v h1) Q := by
  have P1 := Post.bind P
  show Post Z W ρ H σ ((evE D ma fr h).bind fun x h => (evEs D .nil fr h).bind fun xs h => .ok (x :: xs) h) _
  cases q : evE D ma fr h with
  | no => rw [q] at P1; exact P1.elim
  | ex x h1 => rw [q] at P1; exact P1
  | ok v h1 =>
    rw [q] at P1
    exact fun ρ1 H1 e1 r1 => ⟨v, rfl, P1 ρ1 H1 e1 r1⟩
theorem args2 {ma mb : E} {fr : Fr} {k : MV → MV → MHp → R α} {Q : α → MHp → Rho → Hp → Prop} (P : Post Z W ρ H σ ((evE D ma fr h).bind fun x h => (evE D mb fr h).bind fun y h => k x y h) Q) :
    Post Z W ρ H σ (evEs D (.cons ma (.cons mb .nil)) fr h) fun vs h1 ρ1 H1 => ∃ v w, vs = [v, w] ∧ Post Z W ρ1 H1 σ (k v w h1) Q := by
  have P1 := Post.bind P
  show Post Z W ρ H σ ((evE D ma fr h).bind fun x h => (evEs D (.cons mb .nil) fr h).bind fun xs h => .ok (x :: xs) h) _
  cases q : evE D ma fr h with
  | no => rw [q] at P1; exact P1.elim
  | ex x h1 => rw [q] at P1; exact P1
  | ok v h1 =>
    rw [q] at P1
    show Post Z W ρ H σ ((evEs D (.cons mb .nil) fr h1).bind fun xs h => .ok (v :: xs) h) _
    show Post Z W ρ H σ (((evE D mb fr h1).bind fun x h => (evEs D .nil fr h).bind fun xs h => .ok (x :: xs) h).bind fun xs h => .ok (v :: xs) h) _
    cases q2 : evE D mb fr h1 with
    | no =>
      have P2 : Post Z W ρ H σ ((evE D ma fr h).bind fun x h => (evE D mb fr h).bind fun y h => k x y h) Q := P
      rw [q] at P2
      have P3 : Post Z W ρ H σ ((evE D mb fr h1).bind fun y h => k v y h) Q := P2
      rw [q2] at P3
      exact P3.elim
    | ex x h2 =>
      have P2 : Post Z W ρ H σ ((evE D ma fr h).bind fun x h => (evE D mb fr h).bind fun y h => k x y h) Q := P
      rw [q] at P2
      have P3 : Post Z W ρ H σ ((evE D mb fr h1).bind fun y h => k v y h) Q := P2
      rw [q2] at P3
      exact P3
    | ok w h2 =>
      have P2 : Post Z W ρ H σ ((evE D ma fr h).bind fun x h => (evE D mb fr h).bind fun y h => k x y h) Q := P
      rw [q] at P2
      have P3 : Post Z W ρ H σ ((evE D mb fr h1).bind fun y h => k v y h) Q := P2
      rw [q2] at P3
      exact fun ρ1 H1 e1 r1 => ⟨v, w, rfl, Post.later P3 e1⟩
theorem RVs.two_of {v w : MV} {vvs : List V} (r : RVs Z ρ H [v, w] vvs) : ∃ vv ww, vvs = [vv, ww] ∧ RV Z ρ H v vv ∧ RV Z ρ H w ww := by
  simp only [RVs] at r
  obtain ⟨a, t, rfl, h1, b, t2, rfl, h2, e⟩ := r
  exact ⟨a, b, by rw [e], h1, h2⟩
theorem i_range1 {tg a : Expr} {m : E} {p1 : Pos} (hg : Gl X "range") (hm : X.mg "range" = none) (ha : PA X [a] (tEs Z W D (.cons m .nil))) (hs : starEach [a] X.env = [(false, eval a X.env)]) : PI X tg (.Call (.Name "range" p1) [a] [] pos) (tI Z W D (.range1 m)) := by
  refine PIw (pi_range1 hg hm ha hs) fun σ H Q ⟨ρ, fr, h, F, R, P⟩ => ⟨ρ, fr, h, F, R, ?_⟩
  refine (args1 P).imp fun vs h1 ρ1 H1 e1 r1 ⟨v, ev, p1⟩ vvs rvs => ?_
  subst ev
  obtain ⟨vv, rfl, rv⟩ := rvs.one_of
  obtain ⟨j, rfl⟩ : ∃ j, v = .int j := by cases v <;> first | exact ⟨_, rfl⟩ | exact False.elim p1
  have p2 : Post Z W ρ1 H1 σ (if -(2 ^ 62) ≤ j ∧ j < 2 ^ 62 then G.R.ok (.items (rangeL 0 j.toNat)) h1 else G.R.no) fun src _ ρ' H' => ∀ J, SrcIt Z src J ρ' H' → Q J H' := p1
  by_cases hj : -(2 ^ 62) ≤ j ∧ j < 2 ^ 62
  · rw [if_pos hj] at p2
    exact ⟨j, by rw [rv.int], hj.1, hj.2, p2 ρ1 H1 Ext.refl r1 _ src_rng⟩
  · rw [if_neg hj] at p2
    exact p2.elim
theorem i_range2 {tg a b : Expr} {m m2 : E} {p1 : Pos} (hg : Gl X "range") (hm : X.mg "range" = none) (ha : PA X [a, b] (tEs Z W D (.cons m (.cons m2 .nil)))) (hs : starEach [a, b] X.env = [(false, eval a X.env), (false, eval b X.env)]) (hs2 : starEach [b] X.env = [(false, eval b X.env)]) :
    PI X tg (.Call (.Name "range" p1) [a, b] [] pos) (tI Z W D (.range2 m m2)) := by
  refine PIw (pi_range2 hg hm ha hs hs2) fun σ H Q ⟨ρ, fr, h, F, R, P⟩ => ⟨ρ, fr, h, F, R, ?_⟩
  refine (args2 P).imp fun vs h1 ρ1 H1 e1 r1 ⟨v, w, ev, p1⟩ vvs rvs => ?_
  subst ev
  obtain ⟨vv, ww, rfl, rv, rw'⟩ := rvs.two_of
  obtain ⟨i, rfl⟩ : ∃ j, v = .int j := by cases v <;> first | exact ⟨_, rfl⟩ | exact False.elim p1
  obtain ⟨j, rfl⟩ : ∃ j, w = .int j := by cases w <;> first | exact ⟨_, rfl⟩ | exact False.elim p1
  have p2 : Post Z W ρ1 H1 σ (if -(2 ^ 62) ≤ i ∧ i < 2 ^ 62 ∧ -(2 ^ 62) ≤ j ∧ j < 2 ^ 62 then G.R.ok (.items (rangeL i (j - i).toNat)) h1 else G.R.no) fun src _ ρ' H' => ∀ J, SrcIt Z src J ρ' H' → Q J H' := p1
  by_cases hj : -(2 ^ 62) ≤ i ∧ i < 2 ^ 62 ∧ -(2 ^ 62) ≤ j ∧ j < 2 ^ 62
  · rw [if_pos hj] at p2
    exact ⟨i, j, by rw [rv.int, rw'.int], hj, p2 ρ1 H1 Ext.refl r1 _ src_rng⟩
  · rw [if_neg hj] at p2
    exact p2.elim
theorem i_zip {a b : Expr} {elts : List Expr} {kk : Nat} {tpos : Pos} {m m2 : E} {p1 : Pos} (hK : X.K = Z.K) (hg : Gl X "zip") (hm : X.mg "zip" = none) (ha : PA X [a, b] (tEs Z W D (.cons m (.cons m2 .nil)))) (hs : starEach [a, b] X.env = (false, eval a X.env) :: starEach [b] X.env) (hpl : (backTo pos (starEach [b] X.env)).any (·.1) = false) :
    PI X (.Tuple elts kk tpos) (.Call (.Name "zip" p1) [a, b] [] pos) (tI Z W D (.zip m m2)) := by
  refine PIw (RZ.pi_zipA hg hm ha hs hpl) fun σ H Q ⟨ρ, fr, h, F, R, P⟩ => ⟨ρ, fr, h, F, R, ?_⟩
  refine (args2 P).imp fun vs h1 ρ1 H1 e1 r1 ⟨v, w, ev, p1⟩ vvs rvs => ?_
  subst ev
  obtain ⟨vv, ww, rfl, rv, rw'⟩ := rvs.two_of
  cases v <;> try exact False.elim p1
  cases w <;> try exact False.elim p1
  obtain ⟨a1, vs1, rfl, q1, s1⟩ := rv.tupAt
  obtain ⟨a2, vs2, rfl, q2, s2⟩ := rw'.tupAt
  rw [hK]
  exact ⟨a1, a2, vs1, vs2, rfl, .inr ⟨q1.sq, q2.sq, p1 ρ1 H1 Ext.refl r1 _ (src_zip q1 s1 q2 s2)⟩⟩
theorem for_w {src : Src} {J : L2.It} {body : MV → Fr → MHp → R Ctl} {t : TG} {tb : TS} {De : Ends} {ρ0 : Rho} {H0 : Hp} {σ0 : L2.St} {fr0 : Fr} {h0 : MHp} {n : Nat} (S : SrcIt Z src J ρ0 H0) (F0 : FR Z ρ0 H0 fr0 σ0) (R0 : HR Z ρ0 h0 H0)
    (P0 : PostC Z W ρ0 H0 De (forL src body n 0 fr0 h0))
    (hb : ∀ (De' : Ends) x v ρ H σ fr h, FR Z ρ H fr σ → HR Z ρ h H → RV Z ρ H x v → PostC Z W ρ H De' (body x fr h) → t v σ H fun σ2 H2 => tb De' σ2 H2) :
    ∃ Wl : Nat → Nat → L2.St → Hp → Prop, (∃ m, Wl 0 m σ0 H0) ∧ ∀ i m σ H, Wl i m σ H →
      (J.stop i H ∧ De.nx σ H) ∨ (J.go i H ∧ ∃ N : L2.St → Hp → Prop, (∀ σ' H', N σ' H' → ∃ m', m' < m ∧ Wl (i + 1) m' σ' H') ∧ ∀ x H', J.yld i H x H' → t x σ H' fun σ2 H2 => tb { De with nx := N, ct := N, bk := De.nx } σ2 H2) := by
  refine ⟨fun i m σ H => ∃ ρ fr h, Ext ρ0 H0 ρ H ∧ FR Z ρ H fr σ ∧ HR Z ρ h H ∧ PostC Z W ρ H De (forL src body m i fr h), ⟨n, ρ0, fr0, h0, Ext.refl, F0, R0, P0⟩, ?_⟩
  rintro i m σ H ⟨ρ, fr, h, e, F, R, P⟩
  cases m with
  | zero => exact P.elim
  | succ m =>
    cases q : src.item i h with
    | none => unfold forL at P; rw [q] at P; exact P.elim
    | some o =>
      cases o with
      | none =>
        refine .inl ⟨S.stop ρ H h i e R q, ?_⟩
        unfold forL at P
        rw [q] at P
        exact PostC.now R P σ F
      | some x =>
        obtain ⟨g1, g2⟩ := S.go ρ H h i x e R q
        refine .inr ⟨g1, fun σ' H' => ∃ ρ' fr' h', Ext ρ0 H0 ρ' H' ∧ FR Z ρ' H' fr' σ' ∧ HR Z ρ' h' H' ∧ PostC Z W ρ' H' De (forL src body m (i + 1) fr' h'), fun σ' H' w => ⟨m, Nat.lt_succ_self m, w⟩, fun v H' y => ?_⟩
        obtain ⟨e2, R2, rv⟩ := g2 v H' y
        refine hb _ x v ρ H' σ fr h (F.ext e2) R2 rv ?_
        have P' : PostC Z W ρ H De ((body x fr h).calm fun c h => match c with
          | .nx fr => forL src body m (i + 1) fr h
          | .ct fr => forL src body m (i + 1) fr h
          | .bk fr => .ok (.nx fr) h
          | .rt v => .ok (.rt v) h
          | .xx e fr => .ok (.xx e fr) h) := by
          have P2 := P
          unfold forL at P2
          rw [q] at P2
          exact P2
        have P3 := PostC.later P' e2
        have key : ∀ c h1 ρ1 H1, Ext ρ H' ρ1 H1 → HR Z ρ1 h1 H1 → PostC Z W ρ1 H1 De (match c with
          | .nx fr => forL src body m (i + 1) fr h1
          | .ct fr => forL src body m (i + 1) fr h1
          | .bk fr => .ok (.nx fr) h1
          | .rt v => .ok (.rt v) h1
          | .xx e fr => .ok (.xx e fr) h1) → EndC Z W { De with nx := fun σ' H' => ∃ ρ' fr' h', Ext ρ0 H0 ρ' H' ∧ FR Z ρ' H' fr' σ' ∧ HR Z ρ' h' H' ∧ PostC Z W ρ' H' De (forL src body m (i + 1) fr' h'), ct := fun σ' H' => ∃ ρ' fr' h', Ext ρ0 H0 ρ' H' ∧ FR Z ρ' H' fr' σ' ∧ HR Z ρ' h' H' ∧ PostC Z W ρ' H' De (forL src body m (i + 1) fr' h'), bk := De.nx } ρ1 H1 c := by
          intro c h1 ρ1 H1 e1 r1 p1
          have ee := (e.trans e2).trans e1
          cases c with
          | nx fr => exact fun σ1 F1 => ⟨ρ1, fr, h1, ee, F1, r1, p1⟩
          | ct fr => exact fun σ1 F1 => ⟨ρ1, fr, h1, ee, F1, r1, p1⟩
          | bk fr => exact p1.now r1
          | rt v => exact p1.now r1
          | xx x fr => exact p1.now r1
        cases qb : body x fr h with
        | no => rw [qb] at P3; exact P3.elim
        | ex z h1 => rw [qb] at P3; exact P3.elim
        | ok c h1 =>
          rw [qb] at P3
          exact fun ρ1 H1 e1 r1 => key c h1 ρ1 H1 e1 r1 (PostC.later P3 e1)
theorem s_for {tg iter : Expr} {body : List Stmt} {mt : Tg} {mi : G.It} {mb : Ss} (hp : PassesOwn (model X.prog X.w) X.A X.env X.xe) (hc : X.calm = true) (hi : PI X tg iter (tI Z W D mi)) (hg : PG X tg (tG Z D mt)) (hb : PSs X body (tSs Z W D mb))
    (hs : ∀ x, foldedSetIterable iter X.env x = pure x) : PS X (.For tg iter body [] pos) (tS Z W D (.for_ mt mi mb)) := by
  refine PSw (ps_for hp hc hi hg hb hs) fun De σ H ⟨ρ, fr, h, F, R, P⟩ => ⟨ρ, fr, h, F, R, ?_⟩
  refine (PostC.lift F P).imp fun src h1 ρ1 H1 e1 r1 p1 J S => ?_
  refine for_w S (F.ext e1) r1 p1 fun De' x v ρ2 H2 σ2 fr2 h2 F2 R2 rv P2 => ⟨ρ2, fr2, h2, x, F2, R2, rv, ?_⟩
  exact (PostC.calm (σ := []) P2).imp fun fr3 h3 ρ3 H3 e3 r3 p3 σ3 F3 => ⟨ρ3, fr3, h3, F3, r3, p3⟩
theorem s_while {c : Expr} {body : List Stmt} {mc : E} {mb : Ss} (hp : PassesOwn (model X.prog X.w) X.A X.env X.xe) (hc : PT X c (tTst Z W D mc)) (hb : PSs X body (tSs Z W D mb)) : PS X (.While c body [] pos) (tS Z W D (.while_ mc mb)) := by
  refine PSw (ps_while hp hc hb) fun De σ H ⟨ρ, fr, h, F, R, P⟩ => ?_
  refine ⟨fun m σ H => ∃ ρ fr h, FR Z ρ H fr σ ∧ HR Z ρ h H ∧ PostC Z W ρ H De (whileL (fun fr h => evTest D mc fr h) (fun fr h => exSs D mb fr h) m fr h), ⟨turnsN, ρ, fr, h, F, R, P⟩, ?_⟩
  rintro m σ H ⟨ρ, fr, h, F, R, P⟩
  cases m with
  | zero => exact P.elim
  | succ m =>
    unfold whileL at P
    refine ⟨ρ, fr, h, F, R, ?_⟩
    refine (PostC.lift F P).imp fun b h1 ρ1 H1 e1 r1 p1 => ?_
    cases b with
    | false => exact p1.now r1 σ (F.ext e1)
    | true =>
      refine ⟨fun σ' H' => ∃ ρ' fr' h', FR Z ρ' H' fr' σ' ∧ HR Z ρ' h' H' ∧ PostC Z W ρ' H' De (whileL (fun fr h => evTest D mc fr h) (fun fr h => exSs D mb fr h) m fr' h'), fun σ' H' w => ⟨m, Nat.lt_succ_self m, w⟩, ρ1, fr, h1, F.ext e1, r1, ?_⟩
      refine PostC.seq p1 fun c h2 ρ2 H2 r2 p2 => ?_
      cases c with
      | nx fr => exact fun σ1 F1 => ⟨ρ2, fr, h2, F1, r2, p2⟩
      | ct fr => exact fun σ1 F1 => ⟨ρ2, fr, h2, F1, r2, p2⟩
      | bk fr => exact p2.now r2
      | rt v => exact p2.now r2
      | xx x fr => exact p2.now r2
end
end G
set_option Elab.async false
set_option linter.all false
set_option maxRecDepth 100000
set_option maxHeartbeats 1000000
/-! List comprehensions, calls. -/
namespace G
open PySem PySem.Spec PyProof.Rows L2
variable (Z : Stat) (D : Ds)
def tGo (own : List Nat) (m : Tg) : TG := fun v σ H Q => ∃ ρ fr h x, FR Z ρ H fr σ ∧ HR Z ρ h H ∧ RV Z ρ H x v ∧ Post Z W0 ρ H [] (evT D m x fr h) fun fr' _ ρ' H' => ∀ σ', FR Z ρ' H' fr' σ' → wipe σ' own = wipe σ own → Q σ' H'
def tGso (own : List Nat) (m : Tgs) : TGs := fun vs σ H Q => ∃ ρ fr h xs, FR Z ρ H fr σ ∧ HR Z ρ h H ∧ RVs Z ρ H xs vs ∧ Post Z W0 ρ H [] (evTs D m xs fr h) fun fr' _ ρ' H' => ∀ σ', FR Z ρ' H' fr' σ' → wipe σ' own = wipe σ own → Q σ' H'
def tCn (m : Eo) : TT := fun σ H Q => ∃ ρ fr h, FR Z ρ H fr σ ∧ HR Z ρ h H ∧ Post Z W0 ρ H σ (evC D m fr h) fun b _ _ H' => Q b H'
section
variable {Z : Stat} {W : WX} {D : Ds} {X : Cx} {pos : Pos} {ρ ρ' : Rho} {H H' : Hp} {σ σ' : L2.St} {h : MHp} {own : List Nat}
theorem wipe_get : ∀ (vs : List Nat) (σ : L2.St) (j : Nat), (wipe σ vs)[j]? = if j ∈ vs ∧ j < σ.length then some none else σ[j]?
  | [], σ, j => by simp [wipe]
  | v :: vs, σ, j => by
    rw [show wipe σ (v :: vs) = (wipe σ vs).set v none from rfl]
    by_cases hj : v = j
    · subst hj
      by_cases hl : v < σ.length
      · rw [List.getElem?_set_self (by rw [wipe_length]; exact hl), if_pos ⟨List.mem_cons_self, hl⟩]
      · rw [List.getElem?_eq_none (by simp [wipe_length]; omega), if_neg (fun z => hl z.2), List.getElem?_eq_none (by omega)]
    · rw [List.getElem?_set_ne hj, wipe_get vs σ j]
      have : (j ∈ v :: vs) ↔ j ∈ vs := by simp [Ne.symm hj]
      simp only [this]
theorem wipe_set {i : Nat} {x : Option V} (hi : i ∈ own) : wipe (σ.set i x) own = wipe σ own := by
  apply List.ext_getElem?
  intro j
  rw [wipe_get, wipe_get, List.length_set]
  by_cases hj : j ∈ own ∧ j < σ.length
  · rw [if_pos hj, if_pos hj]
  · rw [if_neg hj, if_neg hj]
    by_cases e : i = j
    · subst e
      have : ¬ i < σ.length := fun z => hj ⟨hi, z⟩
      rw [List.getElem?_eq_none (by simpa using this), List.getElem?_eq_none (by omega)]
    · rw [List.getElem?_set_ne e]
theorem go_name {i : Nat} {x : PySem.Str} (hN : X.N.Nodup) (hi : X.N[i]? = some x) (hx : Loc X.env.scope x) (hf : X.fn x = true ∨ X.env.scope.names.lookup x = some .local) (ho : i ∈ own) : PG X (.Name x pos) (tGo Z D own (.v i)) := by
  refine PGw (pg_name hN hi hx hf) fun v σ H Q ⟨ρ, fr, h, x, F, R, rv, P⟩ => ?_
  exact P ρ H Ext.refl R _ (F.set rv) (wipe_set ho)
theorem gos_nil : PGs X [] (tGso Z D own .nil) := by
  refine PGsw pgs_nil fun vs σ H Q ⟨ρ, fr, h, xs, F, R, rv, P⟩ => ?_
  cases xs with
  | nil => exact ⟨by simpa only [RVs] using rv, P ρ H Ext.refl R σ F rfl⟩
  | cons x xs => exact P.elim
theorem gos_cons {e : Expr} {es : List Expr} {m : Tg} {ms : Tgs} (h1 : PG X e (tGo Z D own m)) (h2 : PGs X es (tGso Z D own ms)) (hs : (assignEach (e :: es) X.env).map (·.2) = assign e X.env :: (assignEach es X.env).map (·.2)) : PGs X (e :: es) (tGso Z D own (.cons m ms)) := by
  refine PGsw (pgs_cons h1 h2 hs) fun vs σ H Q ⟨ρ, fr, h, xs, F, R, rv, P⟩ => ?_
  cases xs with
  | nil => exact P.elim
  | cons x xs =>
    simp only [RVs] at rv
    obtain ⟨v, r, rfl, rv1, rv2⟩ := rv
    refine ⟨v, r, rfl, ρ, fr, h, x, F, R, rv1, ?_⟩
    exact (Post.bind P).imp fun fr' h1 ρ1 H1 e1 r1 p1 σ1 F1 w1 => ⟨ρ1, fr', h1, xs, F1, r1, rv2.ext e1, p1.imp fun fr2 h2 ρ2 H2 e2 r2 p2 σ2 F2 w2 => p2 σ2 F2 (w2.trans w1)⟩
theorem go_tup {es : List Expr} {ms : Tgs} {k : Nat} (hK : X.K = Z.K) (hc : X.calm = true) (h : PGs X es (tGso Z D own ms)) (hn : es.length = tgsN ms) (hst : (assignEach es X.env).findIdx? (·.1) = none) : PG X (.Tuple es k pos) (tGo Z D own (.tup ms)) := by
  refine PGw (pg_tup (n := tgsN ms) hc h (by rw [asgEach_len, hn]) hst) fun v σ H Q ⟨ρ, fr, h, x, F, R, rv, P⟩ => ?_
  cases x <;> try exact False.elim P
  rename_i xs
  obtain ⟨a, vs, rfl, hq, rs⟩ := rv.tupAt
  have P' : Post Z W0 ρ H [] (if xs.length = tgsN ms then evTs D ms xs fr h else G.R.no) (fun fr' _ ρ' H' => ∀ σ', FR Z ρ' H' fr' σ' → wipe σ' own = wipe σ own → Q σ' H') := P
  by_cases hl : xs.length = tgsN ms
  · rw [if_pos hl] at P'
    exact ⟨a, vs, rfl, hK ▸ hq.sq, by rw [← rs.length]; exact hl, ρ, fr, h, xs, F, R, rs, P'⟩
  · rw [if_neg hl] at P'
    exact P'.elim
theorem PTsw {e : List Expr} {t t' : TT} (h : PTs X e t) (i : ∀ σ H Q, t' σ H Q → t σ H Q) : PTs X e t' := ⟨fun pins s σ H Q I q => h.run pins s σ H Q I (i _ _ _ q)⟩
theorem cn_none : PTs X [] (tCn Z D .none) := PTsw pts_nil fun σ H Q ⟨ρ, fr, h, F, R, P⟩ => P ρ H Ext.refl R
theorem cn_some {c : Expr} {m : E} (h : PT X c (tTst Z W0 D m)) : PTs X [c] (tCn Z D (.some m)) := PTsw (pts_one h) fun σ H Q q => q
/-- what stands at D is handed on as a list -/
theorem post_list {ρ1 : Rho} {H1 : Hp} {D0 : Addr} {z : Bool} {acc : List MV} {vs : List V} {Q : VK} (R : HR Z ρ h H) (hd : ρ.hid D0) (e : Ext ρ1 H1 ρ H) (hD : H1 D0 = none) (hl : H D0 = some (.lst vs)) (rs : RVs Z ρ H acc vs)
    (p : Post Z W ρ1 H1 σ (newL z acc h) fun v _ ρ' H' => ∀ vv, RV Z ρ' H' v vv → Q vv H') : Q (.ref D0) H := by
  unfold newL at p
  by_cases hz : acc.length ≤ lineN
  · rw [if_pos hz] at p
    cases z with
    | true =>
      refine p (rhoShow ρ D0) H (e.show hD) R.show (.ref D0) ?_
      simp only [RV]
      exact ⟨D0, vs, rfl, ⟨hl, R.nlShow hd⟩, RVs.ext0 Ext0.show acc vs rs⟩
    | false =>
      obtain ⟨r2, e2⟩ := R.name (o := .lst acc) hd e hD ⟨vs, hl, rs⟩
      refine p _ H e2 r2 (.ref D0) ?_
      simp only [RV]
      exact ⟨D0, rfl, rhoAdd_same⟩
  · rw [if_neg hz] at p
    exact p.elim
theorem Post.calmB {α β : Type} {ρ1 ρ2 : Rho} {H1 H2 : Hp} {x : R α} {k : α → MHp → R β} {Q : β → MHp → Rho → Hp → Prop} (p : Post Z W ρ1 H1 σ (x.calm k) Q) : Post Z W0 ρ2 H2 σ' x (fun a h1 _ _ => Post Z W ρ1 H1 σ (k a h1) Q) := by
  cases x with
  | ok a h' => exact fun ρ1 H1 e1 _ => p
  | ex e h' => exact p.elim
  | no => exact p
theorem lc_w {z : Bool} {e : E} {tg : Tg} {it : G.It} {c : Eo} {own : List Nat} {σ : L2.St} {H : Hp} {Q : VK} (q : tE Z W D (.lc z e tg it c own) σ H Q) : tLc (tI Z W D it) (tGo Z D own tg) (tCn Z D c) (tE Z W0 D e) own σ H Q := by
  obtain ⟨ρ, fr, h, F, R, P⟩ := q
  refine ⟨ρ, fr, h, F, R, ?_⟩
  refine (Post.bind P).imp fun src h1 ρ1 H1 e1 r1 p1 J S D0 hD => ?_
  obtain ⟨rP, eP⟩ := r1.hide (u := .lst []) hD
  have hd0 : (rhoHide ρ1 D0).hid D0 := .inl rfl
  obtain ⟨turn, hturn⟩ : ∃ turn : MV → MHp → G.R (Option MV), turn = (fun x h => (evT D tg x (wipeF fr own) h).bind fun fr h => (evC D c fr h).bind fun b h => if b then (evE D e fr h).bind fun y h => .ok (some y) h else .ok none h) := ⟨_, rfl⟩
  have p2 : Post Z W ρ1 H1 σ ((lcL src turn (src.fuel h1) 0 [] h1).bind fun xs h => newL z xs h) fun v _ ρ' H' => ∀ vv, RV Z ρ' H' v vv → Q vv H' := by rw [hturn]; exact p1
  obtain ⟨QF, hQF⟩ : ∃ QF : List MV → MHp → Rho → Hp → Prop, QF = fun xs h2 _ _ => Post Z W ρ1 H1 σ (newL z xs h2) fun v _ ρ' H' => ∀ vv, RV Z ρ' H' v vv → Q vv H' := ⟨_, rfl⟩
  have p3 : Post Z W ρ1 H1 σ (lcL src turn (src.fuel h1) 0 [] h1) QF := by
    rw [hQF]
    cases q : lcL src turn (src.fuel h1) 0 [] h1 with
    | no => rw [q] at p2; exact p2
    | ex e h => rw [q] at p2; exact p2
    | ok xs h => rw [q] at p2; exact fun _ _ _ _ => p2
  refine ⟨fun i m H => ∃ ρ h acc vs, Ext ρ1 H1 ρ H ∧ HR Z ρ h H ∧ ρ.hid D0 ∧ H D0 = some (.lst vs) ∧ RVs Z ρ H acc vs ∧ Post Z W ρ1 H1 σ (lcL src turn m i acc h) QF, ⟨src.fuel h1, _, h1, [], [], eP, rP, hd0, upd_same, by simp only [RVs], p3⟩, ?_⟩
  rintro i m H2 ⟨ρ2, h2, acc, vs, e2, r2, hd2, hl2, rs2, P2⟩
  cases m with
  | zero => exact P2.elim
  | succ m =>
    have S2 := S.ext e2
    cases q : src.item i h2 with
    | none => unfold lcL at P2; rw [q] at P2; exact P2.elim
    | some o =>
      cases o with
      | none =>
        refine .inl ⟨S2.stop ρ2 H2 h2 i Ext.refl r2 q, ?_⟩
        unfold lcL at P2
        rw [q, hQF] at P2
        exact post_list r2 hd2 e2 hD hl2 rs2 (P2 _ _ (e2.show hD) r2.show)
      | some x =>
        obtain ⟨g1, g2⟩ := S2.go ρ2 H2 h2 i x Ext.refl r2 q
        refine .inr ⟨g1, fun H => ∃ ρ h acc vs, Ext ρ1 H1 ρ H ∧ HR Z ρ h H ∧ ρ.hid D0 ∧ H D0 = some (.lst vs) ∧ RVs Z ρ H acc vs ∧ Post Z W ρ1 H1 σ (lcL src turn m (i + 1) acc h) QF, fun H' w => ⟨m, Nat.lt_succ_self m, w⟩, fun v H3 y => ?_⟩
        obtain ⟨e3, R3, rv⟩ := g2 v H3 y
        have P4 : Post Z W ρ1 H1 σ ((turn x h2).calm fun o h => match o with
          | none => lcL src turn m (i + 1) acc h
          | some y => if acc.length < lineN then lcL src turn m (i + 1) (acc ++ [y]) h else .no) QF := by
          unfold lcL at P2
          rw [q] at P2
          exact P2
        have P5 : Post Z W0 ρ2 H3 [] (turn x h2) _ := Post.calmB P4
        have eAll := e2.trans e3
        obtain ⟨hl3, hd3⟩ := e3.hd D0 _ hd2 hl2
        have rs3 := rs2.ext e3
        refine ⟨ρ2, wipeF fr own, h2, x, ((F.ext e1).ext eAll).wipe own, R3, rv, ?_⟩
        rw [congrFun (congrFun hturn x) h2] at P5
        refine (Post.bind P5).imp fun fr4 h4 ρ4 H4 e4 r4 p4 σ4 F4 w4 => ⟨by rw [w4]; apply List.ext_getElem?; intro j; rw [wipe_get, wipe_get, wipe_length]; by_cases hj : j ∈ own ∧ j < σ.length <;> simp [hj], ρ4, fr4, h4, F4, r4, ?_⟩
        refine (Post.ofW0 (Post.bind p4)).imp fun b h5 ρ5 H5 e5 r5 p5 => ?_
        have e45 := e4.trans e5
        cases b with
        | false =>
          obtain ⟨hl5, hd5⟩ := e45.hd D0 _ hd3 hl3
          exact ⟨ρ5, h5, acc, vs, eAll.trans e45, r5, hd5, hl5, rs3.ext e45, p5 ρ5 H5 Ext.refl r5⟩
        | true =>
          refine ⟨ρ5, fr4, h5, F4.ext e5, r5, ?_⟩
          refine (Post.ofW0 (Post.bind p5)).imp fun y h6 ρ6 H6 e6 r6 p6 yy ry => ?_
          have p7 : Post Z W ρ1 H1 σ (if acc.length < lineN then lcL src turn m (i + 1) (acc ++ [y]) h6 else .no) QF := p6 ρ6 H6 Ext.refl r6
          have e46 := e45.trans e6
          obtain ⟨hl6, hd6⟩ := e46.hd D0 _ hd3 hl3
          have rs6 := rs3.ext e46
          by_cases hz : acc.length < lineN
          · rw [if_pos hz] at p7
            refine ⟨vs, hl6, by rw [← rs6.length, ← line_eq]; exact hz, ?_⟩
            have ex0 : Ext0 ρ6 H6 ρ6 (upd H6 D0 (.lst (vs ++ [yy]))) := Ext0.hidSet hd6 hl6 fun z => z
            exact ⟨ρ6, h6, acc ++ [y], vs ++ [yy], (eAll.trans e46).hidSet hD, r6.hidSet hd6 hl6 (fun z => z), hd6, upd_same, (RVs.ext0 ex0 _ _ rs6).append (RVs.one (RV.ext0 ex0 _ _ ry)), p7⟩
          · rw [if_neg hz] at p7
            exact p7.elim
section
variable {elt tg iter : Expr} {ifs : List Expr} {scope : Scope} {ow : List (PySem.Str × Nat)} {z : Bool} {me : E} {mt : Tg} {mi : G.It} {mc : Eo}
theorem s_lc (hc : X.calm = true) (hN : X.N.Nodup) (hi : PI X tg iter (tI Z W D mi)) (ok : BlkOk X.N X.env.scope scope ow)
    (hb : ∀ (s : Shared) (H : Hp) (C : Addr) (cl : List (PySem.Str × Addr)) (fp : List Addr), PG (X.blk s H scope (compEnvC scope cl C X.env) fp) tg (tGo Z D (ow.map (·.2)) mt) ∧ PTs (X.blk s H scope (compEnvC scope cl C X.env) fp) ifs (tCn Z D mc) ∧ PE (X.blk s H scope (compEnvC scope cl C X.env) fp) elt (tE Z W0 D me))
    (hs : ∀ x, foldedSetIterable iter X.env x = pure x) : PE X (.ListComp elt [⟨tg, iter, ifs, 0⟩] scope pos) (tE Z W D (.lc z me mt mi mc (ow.map (·.2)))) :=
  PEw (pe_lc hc hN hi ok (fun s H C cl fp => (hb s H C cl fp).1) (fun s H C cl fp => (hb s H C cl fp).2.1) (fun s H C cl fp => (hb s H C cl fp).2.2) hs) fun σ H Q q => lc_w q
theorem s_setLc {i : Nat} {y : PySem.Str} {py spos : Pos} (hc : X.calm = true) (hN : X.N.Nodup) (hy : X.N[i]? = some y) (hyl : X.env.scope.names.lookup y = some .local) (hsw : swapsWith (.ListComp elt [⟨tg, iter, ifs, 0⟩] scope pos) (some (.Name y py)) spos.line X.env = pure true)
    (hi : PI X tg iter (tI Z W D mi)) (ok : BlkOk X.N X.env.scope scope ow)
    (hb : ∀ (s : Shared) (H : Hp) (C : Addr) (cl : List (PySem.Str × Addr)) (fp : List Addr), PG (X.blk s H scope (compEnvC scope cl C X.env) fp) tg (tGo Z D (ow.map (·.2)) mt) ∧ PTs (X.blk s H scope (compEnvC scope cl C X.env) fp) ifs (tCn Z D mc) ∧ PE (X.blk s H scope (compEnvC scope cl C X.env) fp) elt (tE Z W0 D me))
    (hs : ∀ x, foldedSetIterable iter X.env x = pure x) : PS X (.Assign [.Name y py] (.ListComp elt [⟨tg, iter, ifs, 0⟩] scope pos) spos) (tS Z W D (.asg (.v i) (.lc z me mt mi mc (ow.map (·.2))))) := by
  refine PSw (ps_setLc hc hN hy hyl hsw hi ok (fun s H C cl fp => (hb s H C cl fp).1) (fun s H C cl fp => (hb s H C cl fp).2.1) (fun s H C cl fp => (hb s H C cl fp).2.2) hs) fun De σ H ⟨ρ, fr, h, F, R, P⟩ => ?_
  refine lc_w (z := z) (Q := fun x H1 => gName i x σ H1 De.nx) ⟨ρ, fr, h, F, R, ?_⟩
  refine (PostC.lift F P).imp fun v h1 ρ1 H1 e1 r1 p1 vv rv => ?_
  exact p1.now r1 _ ((F.ext e1).set rv)
end
/-! ### calls of the program's defs -/
def spC (Z : Stat) (n : Nat) (c : List MV → MHp → R MV) : Sp := fun vs H Q E => vs.length = n ∧ ∃ ρ h mvs, HR Z ρ h H ∧ RVs Z ρ H mvs vs ∧ Post Z (fun cls d _ H => E cls d H) ρ H [] (c mvs h) fun v _ ρ' H' => ∀ vv, RV Z ρ' H' v vv → Q vv H'
theorem s_call {k n f : Nat} {fa : Addr} {fd : FuncData} {ps : List PySem.Str} {x : PySem.Str} {p1 : Pos} {e : Expr} {es : List Expr} {ms : Es} (F : FnOk X.prog X.w X.K X.mg X.base (L2.CX X.prog X.w) k fa fd ps (spC Z n (D.call f))) (hr : Room k X.A) (hg : Gl X x) (hm : X.mg x = some (.ref fa))
    (hk : PySem.W.keepIn X.K (.ref fa) = true) (hb : Binds X.K fd ps []) (tk : Takes X W) (hn : ∀ vs h, vs.length ≠ n → D.call f vs h = .no) (ha : PA X (e :: es) (tEs Z W D ms)) (hdb : (x == ("__debug__" : PySem.Str)) = false)
    (he : starEach (e :: es) X.env = (false, eval e X.env) :: starEach es X.env) (hpl : (backTo pos (starEach es X.env)).any (·.1) = false) : PE X (.Call (.Name x p1) (e :: es) [] pos) (tE Z W D (.call f ms)) := by
  refine PEw (pe_callS (E := WE W) F hr hg hm hk hb (fun σ => passAt tk σ) ha hdb he hpl) fun σ H Q ⟨ρ, fr, h, Fr, R, P⟩ => ⟨ρ, fr, h, Fr, R, ?_⟩
  refine (Post.bind P).imp fun vs h1 ρ1 H1 e1 r1 p1 vvs rvs => ?_
  refine ⟨?_, ρ1, h1, vs, r1, rvs, ?_⟩
  · by_cases hl : vs.length = n
    · rw [← rvs.length]; exact hl
    · rw [hn vs h1 hl] at p1
      exact p1.elim
  · cases q : D.call f vs h1 with
    | no => rw [q] at p1; exact p1.elim
    | ex x h2 => rw [q] at p1; exact p1
    | ok v h2 => rw [q] at p1; exact p1
end
end G
set_option Elab.async false
set_option linter.all false
set_option maxRecDepth 100000
set_option maxHeartbeats 4000000
/-! Errors' classes over any built-in error, called with keywords too. -/
namespace PySem
namespace GX
open PySem.W PySem.Calls PyProof.Rows PySem.HandSPX Builtin Builtin.ObjectAttr
section
variable {M : Model} {A : Around} {E : Value → Shared → Prop} {h : Heap} {g : Array GenState} {d : Drawn} {t : Nat} {os : OsState}
variable {nm q : Str} {C N : Addr} {bs bm bmB : List Value} {hdct : Bool} {sn : List Str} {sub : List Value} {ab : Bool} {col : Option Bool} {dd : Option Addr} {k0 k1 k2 k3 k5 : Option Value} {B newId initId : String}
theorem check_new_kw (F : ExcBaseFacts B newId initId bmB) (hT : ∀ X : String, bm.contains (.type X) = bmB.contains (.type X)) {rest : List Value} {kw : List (Str × Value)} {Q : Unit → Shared → Prop}
    (hC : h.get? C = some (excClassObj nm q C N bs bm hdct sn sub ab col dd k0 k1 k2 k3 k5 newId)) (hq : Q () ⟨h, g, d, t, os⟩) : wpAny M A (checkBuiltinCall newId ⟨.ref C :: rest, kw⟩) Q E ⟨h, g, d, t, os⟩ := by
  have hcont : (Value.ref C :: bm).contains (.type B) = true := by rw [List.contains_cons, hT, F.hasB, Bool.or_true]
  have hstar := F.noStar
  simp only [checkBuiltinCall, F.newKind, F.newSplit, F.newRow]
  repeat (first | refine wpAny_loadPart_at hC ?_ | (refine wpAny_isSubtype_exc hC ?_; rw [hcont]) | refine wpAny_staticBase_exc hC ?_ | refine wpAny_madeBy_exc hC ?_ | simp only [bne_self_eq_false, Bool.false_eq_true, if_false] | wp_step)
  exact hq
end
section
variable {prog : Program} {w : World} {A : Around} {E : Value → Shared → Prop} {R : Result → Shared → Prop} {h : Heap} {g : Array GenState} {d : Drawn} {t : Nat} {os : OsState}
variable {nm q : Str} {C N : Addr} {bs bm bmB : List Value} {hdct : Bool} {sn : List Str} {sub : List Value} {ab : Bool} {col : Option Bool} {dd : Option Addr} {k0 k1 k2 k3 k5 : Option Value} {B newId initId : String}
theorem new_kw (F : ExcBaseFacts B newId initId bmB) (hT : ∀ X : String, bm.contains (.type X) = bmB.contains (.type X)) {rest : List Value} {kw : List (Str × Value)}
    (hC : h.get? C = some (excClassObj nm q C N bs bm hdct sn sub ab col dd k0 k1 k2 k3 k5 newId))
    (hq : R (.ok (.ret (.ref (h.objs.size + 1)))) ⟨(h.push { cls := .type "tuple", data := .seq rest.toArray }).push
      { cls := .ref C, data := .fields #[.ref h.objs.size, .none, .none, .none, .bool false, .none] }, g, d, t, os⟩) (hrest : rest.length ≤ sizeLine) :
    codeAny (model prog w) A (.builtin newId ⟨.ref C :: rest, kw⟩) R ⟨h, g, d, t, os⟩ := by
  have hends := F.ends
  have hcB : (Value.ref C :: bm).contains (.type B) = true := by rw [List.contains_cons, hT, F.hasB, Bool.or_true]
  have hcA : (Value.ref C :: bm).contains (.type "AttributeError") = false := by rw [List.contains_cons, hT, F.noAttr]; rfl
  have hcN : (Value.ref C :: bm).contains (.type "NameError") = false := by rw [List.contains_cons, hT, F.noName]; rfl
  refine codeAny_builtinAt F.entry ?_
  unfold Builtin.«BaseException.__new__»
  refine wpAt_bind ?_
  show wpAt _ _ _ (stack >>= _) _ _ _
  refine wpAt_bind (wpAt_stack fun p below => wpAt_of_wpAny ?_)
  wp_walk
  refine wpAt_of_wpAny ?_
  rw [F.owner]
  repeat (first | with_reducible refine wpAny_madeHere_exc F.canon hC ?_ | with_reducible refine wpAny_loadPart_at hC ?_ | (with_reducible refine wpAny_isSubtype_exc hC ?_; first | rw [hcB] | rw [hcA] | rw [hcN]) | wp_step)
  show R _ _
  rw [Heap.size_push]
  exact hq
theorem type_call_kw (F : ExcBaseFacts B newId initId bmB) (hT : ∀ X : String, bm.contains (.type X) = bmB.contains (.type X)) {rest : List Value} {kw : List (Str × Value)} {fI : Addr} {Q : Fin → Shared → Prop}
    (hC : h.get? C = some (excClassObj nm q C N bs bm hdct sn sub ab col dd k0 k1 k2 k3 k5 newId))
    (hi : W.Looks (model prog w) h (typeLookup (.ref C) "__init__") (some (.ref fI))) (hb : ∀ self, W.Looks (model prog w) h (bindSpecial (.ref fI) self) (.ref fI, [self])) (hrest : rest.length ≤ sizeLine)
    (hq : codeAny (model prog w) A (.call (.ref fI) ⟨.ref (h.objs.size + 1) :: rest, kw⟩)
      (fun r s' => match r with | .ok (.ret v) => v = .none ∧ Q (.done (.ret (.ref (h.objs.size + 1)))) s' | .ok _ => False | .error e => E e s')
      ⟨(h.push (W.kdv_tup rest)).push (excO C h.objs.size), g, d, t, os⟩) :
    wpAny (model prog w) A (Builtin.«type.__call__» ⟨.ref C :: rest, kw⟩) Q E ⟨h, g, d, t, os⟩ := by
  repeat (first | with_reducible refine wpAny_loadPart_at hC ?_ | with_reducible refine wpAny_madeBy_exc hC ?_ | wp_step)
  refine codeAny_call_builtin_code (Code.quiet_builtin _ F.quiet) (check_new_kw F hT hC ?_)
  refine new_kw F hT hC ?_ hrest
  show wpAny _ _ _ _ _ _
  have k : ∀ b o, h.get? b = some o → ((h.push (W.kdv_tup rest)).push (excO C h.objs.size)).get? b = some o := fun b o e => Heap.get?_push_of_some _ (Heap.get?_push_of_some _ e)
  have hC₁ := k _ _ hC
  have hget : ((h.push (W.kdv_tup rest)).push (excO C h.objs.size)).get? (h.objs.size + 1) = some (excO C h.objs.size) := by heap_get
  have hcC : (Value.ref C :: bm).contains (.ref C) = true := by simp
  have i1 := hi.keeps k
  have b1 := (hb (.ref (h.objs.size + 1))).keeps k
  unfold isInstance
  repeat (first | with_reducible refine wpAny_loadPart_at hget ?_ | (with_reducible refine wpAny_isSubtype_exc hC₁ ?_; rw [hcC]) | wp_step)
  show wpAny _ _ (typeLookup (.ref C) _) _ _ _
  refine i1.at ?_
  refine wpAny_holding (wpAny_bind (b1.at ?_))
  refine wpAny_bind (wpAny_call (codeAny_mono hq fun r s' z => ?_))
  rcases r with e | (v | _ | _ | _) <;> first | exact z | exact z.elim | skip
  obtain ⟨rfl, z⟩ := z
  first
    | exact wpAny_pure (wpAny_pure z)
    | (wp_walk; exact z)
theorem check_type_kw {M : Model} {Q : Unit → Shared → Prop} {rest : List Value} {kw : List (Str × Value)}
    (hC : h.get? C = some (excClassObj nm q C N bs bm hdct sn sub ab col dd k0 k1 k2 k3 k5 newId)) (hq : Q () ⟨h, g, d, t, os⟩) : wpAny M A (checkBuiltinCall "type.__call__" ⟨.ref C :: rest, kw⟩) Q E ⟨h, g, d, t, os⟩ := by
  have f3 := tc_sub
  have hT : (⟨h, g, d, t, os⟩ : Shared).TypeIs (.ref C) "type" := ⟨_, hC, rfl⟩
  simp only [checkBuiltinCall, tc_kind, tc_split]
  repeat (any_goals (first | assumption | with_reducible refine wpAny_loadPart_at hC ?_ | with_reducible refine wpAny_onRaise ?_ | with_reducible refine wpAny_map ?_ | wp_step))
theorem call_kw (F : ExcBaseFacts B newId initId bmB) (hT : ∀ X : String, bm.contains (.type X) = bmB.contains (.type X)) {rest : List Value} {kw : List (Str × Value)} {fI : Addr}
    (hC : h.get? C = some (excClassObj nm q C N bs bm hdct sn sub ab col dd k0 k1 k2 k3 k5 newId))
    (hi : W.Looks (model prog w) h (typeLookup (.ref C) "__init__") (some (.ref fI))) (hb : ∀ self, W.Looks (model prog w) h (bindSpecial (.ref fI) self) (.ref fI, [self])) (hrest : rest.length ≤ sizeLine)
    (hq : codeAny (model prog w) (A.under (.builtin "type.__call__" ⟨.ref C :: rest, kw⟩)) (.call (.ref fI) ⟨.ref (h.objs.size + 1) :: rest, kw⟩) (W.InitBack (h.objs.size + 1) R)
      ⟨(h.push (W.kdv_tup rest)).push (excO C h.objs.size), g, d, t, os⟩) :
    codeAny (model prog w) A (.call (.ref C) ⟨rest, kw⟩) R ⟨h, g, d, t, os⟩ := by
  have f1 := tc_lookup
  have f2 := tc_bind (.ref C)
  have hTy : (⟨h, g, d, t, os⟩ : Shared).TypeIs (.ref C) "type" := ⟨_, hC, rfl⟩
  refine codeAny_of_tree ?_
  show wpAny _ _ (callAny (.ref C) _) _ _ _
  repeat (any_goals (first | assumption | with_reducible refine wpAny_loadPart_at hC ?_ | wp_step))
  refine ⟨rfl, ?_⟩
  refine codeAny_call_builtin_at (Code.quiet_builtin _ (by decide +kernel)) entry_typeCall (check_type_kw hC (type_call_kw F hT hC hi hb hrest ?_))
  refine codeAny_mono hq fun r s' z => ?_
  rcases r with e | (v | _ | _ | _) <;> exact z
end

/-- own classes, then the built-in one's mro -/
def refsT (tl : List Value) : List Value → Bool
  | .ref _ :: r => refsT tl r
  | l => l == tl
theorem refsT_cases (tl : List Value) : ∀ l : List Value, refsT tl l = true → (∃ c r, l = .ref c :: r ∧ refsT tl r = true) ∨ l = tl
  | [], e => .inr (beq_iff_eq.mp e)
  | .ref c :: r, e => .inl ⟨c, r, rfl, e⟩
  | .none :: _, e => .inr (beq_iff_eq.mp e)
  | .ellipsis :: _, e => .inr (beq_iff_eq.mp e)
  | .notImplemented :: _, e => .inr (beq_iff_eq.mp e)
  | .bool _ :: _, e => .inr (beq_iff_eq.mp e)
  | .int _ _ :: _, e => .inr (beq_iff_eq.mp e)
  | .float _ _ :: _, e => .inr (beq_iff_eq.mp e)
  | .str _ _ :: _, e => .inr (beq_iff_eq.mp e)
  | .bytes _ _ :: _, e => .inr (beq_iff_eq.mp e)
  | .type _ :: _, e => .inr (beq_iff_eq.mp e)
  | .builtin _ :: _, e => .inr (beq_iff_eq.mp e)
structure TlF (tl : List Value) (B newId initId : String) : Prop where
  F : ExcBaseFacts B newId initId tl
  pass : ∀ self, refuseLoop self "__setattr__" tl = pure ()
  obj : tl.contains (.type "object") = true
theorem tlF_V : TlF [.type "ValueError", .type "Exception", .type "BaseException", .type "object"] "ValueError" "ValueError.__new__" "ValueError.__init__" := ⟨F.excBase_ValueError, fun self => F.store_ValueError.passes self, by decide +kernel⟩
theorem tlF_L : TlF [.type "LookupError", .type "Exception", .type "BaseException", .type "object"] "LookupError" "LookupError.__new__" "LookupError.__init__" := ⟨F.excBase_LookupError, fun self => F.store_LookupError.passes self, by decide +kernel⟩
theorem tlF_I : TlF [.type "IndexError", .type "LookupError", .type "Exception", .type "BaseException", .type "object"] "IndexError" "IndexError.__new__" "IndexError.__init__" := ⟨F.excBase_IndexError, fun self => F.store_IndexError.passes self, by decide +kernel⟩
theorem TlF.ne {tl : List Value} {B newId initId : String} (T : TlF tl B newId initId) : tl ≠ [] := fun e => by
  have := T.obj
  rw [e] at this
  cases this
theorem refsT_pass {tl : List Value} {B newId initId : String} (T : TlF tl B newId initId) (self : Value) : ∀ l : List Value, refsT tl l = true → refuseLoop self "__setattr__" l = pure () := by
  intro l
  induction l with
  | nil =>
    intro e
    rcases refsT_cases tl [] e with ⟨c, r', q, h⟩ | q
    · cases q
    · exact absurd q.symm T.ne
  | cons a r ih =>
    intro e
    rcases refsT_cases tl (a :: r) e with ⟨c, r', q, h⟩ | q
    · obtain ⟨rfl, rfl⟩ := List.cons.inj q
      rw [refuseLoop_ref]; exact ih h
    · rw [q]; exact T.pass self
theorem refsT_contains {tl : List Value} (X : String) : ∀ l : List Value, refsT tl l = true → l.contains (.type X) = tl.contains (.type X) := by
  intro l
  induction l with
  | nil =>
    intro e
    rcases refsT_cases tl [] e with ⟨c, r', q, h⟩ | q
    · cases q
    · rw [q]
  | cons a r ih =>
    intro e
    rcases refsT_cases tl (a :: r) e with ⟨c, r', q, h⟩ | q
    · obtain ⟨rfl, rfl⟩ := List.cons.inj q
      rw [List.contains_cons, ih h]; rfl
    · rw [q]
theorem refsT_ne {tl : List Value} {B newId initId : String} (T : TlF tl B newId initId) {l : List Value} (e : refsT tl l = true) : l.isEmpty = false := by
  cases l with
  | nil =>
    rcases refsT_cases tl [] e with ⟨c, r', q, h⟩ | q
    · cases q
    · exact absurd q.symm T.ne
  | cons _ _ => rfl
section
variable {prog : Program} {w : World} {A : Around} {E : Value → Shared → Prop} {R : Result → Shared → Prop} {hp : Heap} {g : Array GenState} {d : Drawn} {t : Nat} {os : OsState}
variable {tl : List Value} {B newId initId : String}
theorem osaT_new (T : TlF tl B newId initId) {K : W.Frag} {name : Str} {tk : Tok} {v : Value} {x C : Addr} {fv : Array Value} {cd : ClassData}
    (X : K.In hp) (hx : hp.get? x = some { cls := .ref C, data := .fields fv }) (hcd : W.clsIn K C = some cd) (hm : refsT tl cd.mro = true) (hh : cd.hasDict = true) (ha : W.findIn K (.ref C) name = some none)
    (hq : ∀ h' tk' dx, (∀ b o, b ≠ x → hp.get? b = some o → h'.get? b = some o) → hp.objs.size ≤ dx → dx ≠ x → h'.get? x = some { cls := .ref C, dict := some dx, data := .fields fv } →
      h'.Ns1 dx (fun y => if y = name then some v else none) → R (.ok (.ret .none)) ⟨h', g, d, tk', os⟩) :
    codeAny (model prog w) A (.call (.builtin "object.__setattr__") ⟨[.ref x, .str name tk, v], []⟩) R ⟨hp, g, d, t, os⟩ := by
  have I : W.InstAt hp x { cls := .ref C, data := .fields fv } C none := ⟨hx, rfl, rfl, trivial⟩
  have SF := F.store_object
  have ne := refsT_ne T hm
  have hob : cd.mro.contains (.type "object") = true := (refsT_contains "object" _ hm).trans T.obj
  have hxs : x ≠ hp.objs.size := Nat.ne_of_lt (Heap.lt_size hx)
  have sub : W.Looks (model prog w) hp (isInstance (.ref x) (.type "object")) true := I.type.andThen (W.looks_mroIn X (by unfold W.mroIn; rw [hcd, Option.bind_some, if_neg (by rw [ne]; decide), hob]))
  refine codeAny_call_builtin SF.slot.plain SF.entry (@W.check_slot (model prog w) _ _ ⟨hp, g, d, t, os⟩ "object.__setattr__" "object" "__setattr__" (.ref x) [.str name tk, v] [] _ SF.kind SF.split sub (SF.args (.ref x) (.str name tk) v) ?_)
  have hmr : W.Looks (model prog w) hp (mroOf (.ref C)) cd.mro := (W.looks_clsIn X hcd).andThen .now
  have L3 : W.Looks (model prog w) hp (storeTaker? none) none := .now
  have hcls : W.Looks (model prog w) hp (classData C) cd := W.looks_clsIn X hcd
  rw [W.osa_eq, refuse_eq]
  refine wpAny_bind (wpAny_bind (I.type.at (wpAny_bind (hmr.at ?_))))
  rw [refsT_pass T _ _ hm]
  refine wpAny_pure (wpAny_bind (I.type.at (wpAny_bind ((W.looks_findIn X ha).at (wpAny_bind (L3.at ?_))))))
  show wpAny _ _ (storeInOwnDict (.ref x) (.ref C) (.str name tk) name v false) _ _ _
  obtain ⟨nm, bs, mro, ns, qn, hd, sn, sb, ab, col, del⟩ := cd
  dsimp only at hh
  subst hh
  unfold storeInOwnDict ownDictForStores
  repeat (first | with_reducible refine store_in_new ?_ ?_ | with_reducible refine wpAny_loadPart_at hx ?_ | with_reducible refine hcls.at ?_ | wp_step)
  · exact ⟨_, #[], _, (Heap.get?_update_ne _ _ _ _ hxs.symm).trans (Heap.get?_push_at rfl rfl), rfl, fun e he => absurd he (by simp), fun _ => rfl⟩
  · intro h' tk' hn' hs
    have hx₁ : (hp.push { cls := .type "dict", data := .dict #[] }).get? x = some { cls := .ref C, data := .fields fv } := Heap.get?_push_of_some _ hx
    refine hq h' tk' hp.objs.size (fun b o hb ho => ?_) (Nat.le_refl _) hxs.symm ?_ hn'
    · exact (hs.2 b (Nat.ne_of_lt (Heap.lt_size ho))).trans ((Heap.get?_update_ne _ _ _ _ hb).trans (Heap.get?_push_of_some _ ho))
    · exact (hs.2 x hxs).trans (Heap.get?_update_self _ hx₁ rfl)
theorem osaT_old (T : TlF tl B newId initId) {K : W.Frag} {name : Str} {tk : Tok} {v : Value} {x C dx : Addr} {fv : Array Value} {cd : ClassData} {m0 : Str → Option Value} {nl : List Str}
    (X : K.In hp) (hx : hp.get? x = some { cls := .ref C, dict := some dx, data := .fields fv }) (hns : hp.Ns1 dx m0) (hw : Within m0 nl) (hz : nl.length ≤ 1000) (hcd : W.clsIn K C = some cd) (hm : refsT tl cd.mro = true) (hh : cd.hasDict = true)
    (ha : W.findIn K (.ref C) name = some none)
    (hq : ∀ h' tk', (∀ b o, b ≠ dx → hp.get? b = some o → h'.get? b = some o) → h'.Ns1 dx (fun y => if y = name then some v else m0 y) → R (.ok (.ret .none)) ⟨h', g, d, tk', os⟩) :
    codeAny (model prog w) A (.call (.builtin "object.__setattr__") ⟨[.ref x, .str name tk, v], []⟩) R ⟨hp, g, d, t, os⟩ := by
  obtain ⟨oD, esD, epD, hoD, hdD, _⟩ := hns.count hw
  have I : W.InstAt hp x { cls := .ref C, dict := some dx, data := .fields fv } C (some oD) := ⟨hx, rfl, rfl, hoD⟩
  have SF := F.store_object
  have ne := refsT_ne T hm
  have hob : cd.mro.contains (.type "object") = true := (refsT_contains "object" _ hm).trans T.obj
  have sub : W.Looks (model prog w) hp (isInstance (.ref x) (.type "object")) true := I.type.andThen (W.looks_mroIn X (by unfold W.mroIn; rw [hcd, Option.bind_some, if_neg (by rw [ne]; decide), hob]))
  refine codeAny_call_builtin SF.slot.plain SF.entry (@W.check_slot (model prog w) _ _ ⟨hp, g, d, t, os⟩ "object.__setattr__" "object" "__setattr__" (.ref x) [.str name tk, v] [] _ SF.kind SF.split sub (SF.args (.ref x) (.str name tk) v) ?_)
  have hmr : W.Looks (model prog w) hp (mroOf (.ref C)) cd.mro := (W.looks_clsIn X hcd).andThen .now
  have L3 : W.Looks (model prog w) hp (storeTaker? none) none := .now
  have hcls : W.Looks (model prog w) hp (classData C) cd := W.looks_clsIn X hcd
  rw [W.osa_eq, refuse_eq]
  refine wpAny_bind (wpAny_bind (I.type.at (wpAny_bind (hmr.at ?_))))
  rw [refsT_pass T _ _ hm]
  refine wpAny_pure (wpAny_bind (I.type.at (wpAny_bind ((W.looks_findIn X ha).at (wpAny_bind (L3.at ?_))))))
  show wpAny _ _ (storeInOwnDict (.ref x) (.ref C) (.str name tk) name v false) _ _ _
  obtain ⟨nm, bs, mro, ns, qn, hd, sn, sb, ab, col, del⟩ := cd
  dsimp only at hh
  subst hh
  unfold storeInOwnDict ownDictForStores
  repeat (first | with_reducible refine PySem.OEX.store_in_old hns hw hz ?_ | with_reducible refine wpAny_loadPart_at hx ?_ | with_reducible refine hcls.at ?_ | wp_step)
  intro h' tk' hn' hs
  exact hq h' tk' (fun b o hb ho => (hs.2 b hb).trans ho) hn'
end
end GX
end PySem
set_option Elab.async false
set_option linter.all false
set_option maxRecDepth 100000
set_option maxHeartbeats 4000000
/-! Errors as values. -/
namespace G
open PySem PySem.Spec PyProof.Rows L2
structure OexT (K : PySem.W.Frag) (C : Addr) (tl : List Value) (newId : String) : Prop where
  cls : ∃ nm q N bs bm sn sub ab col dd k0 k1 k2 k3 k5, K.lookup C = some (excClassObj nm q C N bs bm true sn sub ab col dd k0 k1 k2 k3 k5 newId) ∧ PySem.GX.refsT tl bm = true
  sa : PySem.W.findIn K (.ref C) "__setattr__" = some (some (.builtin "object.__setattr__"))
  kC : PySem.W.keepIn K (.ref C) = true
section
variable {X : Cx} {pins : List (Addr × Obj)} {σ : L2.St} {H : Hp} {s : Shared} {a C dx : Addr} {f : PySem.Str} {y : V} {u : Value} {fs : List (PySem.Str × V)} {Q : Unit → Shared → Prop} {E : Value → Shared → Prop} {A : Around}
variable {tl : List Value} {B newId initId : String}
theorem ostT_new (TL : PySem.GX.TlF tl B newId initId) (T : OexT X.K C tl newId) (I : Inv X pins σ H s) (e : H a = some (exo a C none)) (hno : PySem.W.findIn X.K (.ref C) f = some none) (ry : RelV y u)
    (h : ∀ dx s', H dx = none → dx ≠ a → Inv X pins σ (upd (upd H dx (exd dx [(f, y)])) a (exo a C (some dx))) s' → Q () s') : wpAny (model X.prog X.w) A (setAttr (.ref a) f u) Q E s := by
  obtain ⟨nm, q, N, bs, bm, sn, sub, ab, col, dd, k0, k1, k2, k3, k5, hC, hbm⟩ := T.cls
  have hcl : PySem.W.clsIn X.K C = some { name := nm, bases := bs, mro := .ref C :: bm, ns := N, qualname := q, hasDict := true, slotNames := sn, subclasses := sub, abstract := ab, collection := col, hasDel := false } := by unfold PySem.W.clsIn; rw [hC] <;> rfl
  obtain ⟨t1, ho⟩ := exo_at I.hok e
  obtain ⟨hp, g, d, t, os⟩ := s
  refine PySem.W.set_plain I.kIn (ox := { cls := .ref C, dict := none, data := .fields #[.ref t1, .none, .none, .none, .bool false, .none] }) (od := none) ⟨ho, rfl, rfl, trivial⟩ T.sa ?_
  refine PySem.GX.osaT_new TL I.kIn ho hcl (show PySem.GX.refsT tl (.ref C :: bm) = true from hbm) rfl hno (fun h' tk' dx k dn dne hx hn => ?_)
  have hnd : H dx = none := I.hok.fresh dn
  have nd : ∀ {b : Addr} {o : Obj}, hp.get? b = some o → b ≠ dx := fun {b o} q => Nat.ne_of_lt (Nat.lt_of_lt_of_le (Heap.lt_size q) dn)
  have na : ∀ {b : Addr}, H b = none → b ≠ a := fun {b} n z => by
    rw [z, e] at n
    cases n
  have Un1 : Un X.fs [] H (upd (upd H dx (exd dx [(f, y)])) a (exo a C (some dx))) hp h' := {
    keep := fun b o q n _ _ => k b o (na n) q
    slot := fun b o q n _ _ => ⟨o.slots, k b o (na n) q⟩
    free := fun b o q n _ => by rw [upd_ne (na n), upd_ne (nd q)]; exact n
    there := fun b o q _ => by
      by_cases hb : b = a
      · exact ⟨_, by rw [hb]; exact hx⟩
      · exact ⟨o, k b o hb q⟩
    tups := fun b xs q => by rw [upd_ne (at_ne e q exo_tup), upd_ne (ne_of_none q hnd)]; exact q
    frzs := fun b o v q => by rw [upd_ne (at_ne e q exo_frz), upd_ne (ne_of_none q hnd)]; exact q
    tbls := fun b ps q => ⟨#[], by rw [upd_ne (at_ne e q exo_tbl), upd_ne (ne_of_none q hnd), q]; simp⟩ }
  refine h dx _ hnd dne (I.un (t' := tk') Un1 fun b o q => ?_)
  by_cases hb : b = a
  · subst hb
    rw [upd_same] at q
    cases q
    exact exo_ok hx
  · rw [upd_ne hb] at q
    by_cases hd : b = dx
    · subst hd
      rw [upd_same] at q
      cases q
      exact exd_ok hn (relO_put (fs := []) ry fun g => True.intro)
    · rw [upd_ne hd] at q
      exact (I.hok b o q).stay (fun c v hc z => k c v (by
          rcases hc with hc | hc
          · rw [hc]
            exact hb
          · exact at_ne e hc exo_own) z)
        (fun c hc => by rw [upd_ne (at_ne e hc exo_own), upd_ne (ne_of_none hc hnd)]; exact hc) (fun c xs hc => by rw [upd_ne (at_ne e hc exo_tup), upd_ne (ne_of_none hc hnd)]; exact hc)
theorem ostT_old (TL : PySem.GX.TlF tl B newId initId) (T : OexT X.K C tl newId) (I : Inv X pins σ H s) (e : H a = some (exo a C (some dx))) (ed : H dx = some (exd dx fs)) (hl : fs.length ≤ 900) (hno : PySem.W.findIn X.K (.ref C) f = some none) (ry : RelV y u)
    (h : ∀ s', Inv X pins σ (upd H dx (exd dx ((f, y) :: fs))) s' → Q () s') : wpAny (model X.prog X.w) A (setAttr (.ref a) f u) Q E s := by
  obtain ⟨nm, q, N, bs, bm, sn, sub, ab, col, dd, k0, k1, k2, k3, k5, hC, hbm⟩ := T.cls
  have hcl : PySem.W.clsIn X.K C = some { name := nm, bases := bs, mro := .ref C :: bm, ns := N, qualname := q, hasDict := true, slotNames := sn, subclasses := sub, abstract := ab, collection := col, hasDel := false } := by unfold PySem.W.clsIn; rw [hC] <;> rfl
  obtain ⟨t1, ho⟩ := exo_at I.hok e
  obtain ⟨mA, hns, rel⟩ := exd_at I.hok ed
  have hw := within_of rel
  obtain ⟨hp, g, d, t, os⟩ := s
  obtain ⟨oD, _, _, hoD, _, _⟩ := hns.count hw
  refine PySem.W.set_plain I.kIn (ox := { cls := .ref C, dict := some dx, data := .fields #[.ref t1, .none, .none, .none, .bool false, .none] }) (od := some oD) ⟨ho, rfl, rfl, hoD⟩ T.sa ?_
  refine PySem.GX.osaT_old TL I.kIn ho hns hw (by rw [List.length_map]; omega) hcl (show PySem.GX.refsT tl (.ref C :: bm) = true from hbm) rfl hno (fun h' tk' k hn => ?_)
  have hd : ∃ o, h'.get? dx = some o := by
    obtain ⟨o, _, _, e', _⟩ := hn
    exact ⟨o, e'⟩
  exact h _ (I.write (t' := tk') (x := dx) (e := dx) (o := exd dx ((f, y) :: fs)) (by rw [ed]; exact True.intro) (.inl rfl) k hd (exd_ok hn (relO_put ry rel)))
end
/-- self.f = e -/
def tOstT (C : Addr) (f : PySem.Str) (to te : TE) : TS := fun D σ H => te σ H fun y H1 => to σ H1 fun x H2 => ∃ a : Addr, x = .ref a ∧
  ((H2 a = some (exo a C none) ∧ ∀ dx, H2 dx = none → dx ≠ a → D.nx σ (upd (upd H2 dx (exd dx [(f, y)])) a (exo a C (some dx)))) ∨
    ∃ (dx : Addr) (fs : List (PySem.Str × V)), H2 a = some (exo a C (some dx)) ∧ H2 dx = some (exd dx fs) ∧ fs.length ≤ 900 ∧ D.nx σ (upd H2 dx (exd dx ((f, y) :: fs))))
section
variable {tl : List Value} {B newId initId : String} {X : Cx} {C : Addr} {o e : Expr} {to te : TE} {f : PySem.Str} {p' pos : Pos}
theorem ps_ostT (TL : PySem.GX.TlF tl B newId initId) (T : OexT X.K C tl newId) (hno : PySem.W.findIn X.K (.ref C) f = some none) (ho : PE X o to) (he : PE X e te) (hs : swapsWith e (some (.Attribute o f p')) pos.line X.env = pure false) : PS X (.Assign [.Attribute o f p'] e pos) (tOstT C f to te) := by
  refine ⟨fun pins s σ H D I h => ?_⟩
  refine plainObj_wpAny_Assign_Attribute (thn (he.run pins s σ H _ I h) fun v s1 ⟨y, H1, I1, r1, q1⟩ => thn (ho.run pins s1 σ H1 _ I1 q1) fun u s2 ⟨x, H2, I2, r2, a, ex, q⟩ => ?_) hs
  subst ex
  obtain rfl : u = Value.ref a := r2
  rcases q with ⟨ea, q⟩ | ⟨dx, fs, ea, ed, hl, q⟩
  · exact ostT_new TL T I2 ea hno r1 fun dx s' n ne J => ⟨σ, _, J, q dx n ne⟩
  · exact ostT_old TL T I2 ea ed hl hno r1 fun s' J => ⟨σ, _, J, q⟩
end
/-- what an __init__ of one or two stores does; fs: the fields, the newest first -/
def spI (C : Addr) (n : Nat) (fs : List V → List (PySem.Str × V)) : Sp := fun vs H Q _ => ∃ (a : Addr) (ws : List V), vs = .ref a :: ws ∧ ws.length = n ∧ H a = some (exo a C none) ∧
  ∀ dx H', H dx = none → dx ≠ a → H' a = some (exo a C (some dx)) → H' dx = some (exd dx (fs ws)) → (∀ b, b ≠ a → b ≠ dx → H' b = H b) → Q .non H'
section
variable {tl : List Value} {B newId initId : String} {P : Program} {w : World} {K : PySem.W.Frag} {mg : PySem.Str → Option Value} {base : Heap} {CX : CXT} {C fI : Addr} {fd : FuncData} {nm qual : PySem.Str} {params : Arguments} {scope : Scope}
/-- def __init__(self): self.code = c -/
theorem init1 {c cf : PySem.Str} {j : Nat} {k : Nat} {p1 p2 p3 p4 : Pos} (TL : PySem.GX.TlF tl B newId initId) (T : OexT K C tl newId) (h1 : PySem.W.findIn K (.ref C) cf = some none)
    (FD : FunD K nm qual params [.Assign [.Attribute (.Name "self" p1) cf p2] (.Constant (.str c) j p3) p4] scope [] [] fI fd) (S : FnScope ["self"] ["self"] scope) (v1 : scope.names.lookup ("self" : PySem.Str) = some .local) :
    FnOk P w K mg base CX (k + 1) fI fd ["self"] (spI C 0 fun _ => [(cf, .str c)]) := by
  refine FD.ok S (fun vs H Q E ⟨a, ws, h1, h2, _⟩ => by rw [h1]; simp [h2]) fun cdv A outer s H vs Q E hr hsp => ?_
  obtain ⟨a, ws, rfl, hw, ha, hq⟩ := hsp
  have hw0 : ws = [] := List.length_eq_zero_iff.mp hw
  subst hw0
  refine ⟨_, pss_one (ps_ostT (X := cxOf CX P w K mg base ["self"] qual scope fI cdv A outer s H E) TL T h1 (pe_var (i := 0) rfl (.inl v1)) pe_str rfl), ?_⟩
  refine ⟨.ref a, rfl, a, rfl, .inl ⟨ha, fun dx hd hne => ?_⟩⟩
  exact hq dx _ hd hne upd_same (by rw [upd_ne hne, upd_same]) fun b h1 h2 => by rw [upd_ne h1, upd_ne h2]
/-- def __init__(self, p): self.code = c; self.f = p -/
theorem init2 {c cf f pn : PySem.Str} {j : Nat} {k : Nat} {p1 p2 p3 p4 q1 q2 q3 q4 : Pos} (TL : PySem.GX.TlF tl B newId initId) (T : OexT K C tl newId) (h1 : PySem.W.findIn K (.ref C) cf = some none) (h2 : PySem.W.findIn K (.ref C) f = some none)
    (FD : FunD K nm qual params [.Assign [.Attribute (.Name "self" p1) cf p2] (.Constant (.str c) j p3) p4, .Assign [.Attribute (.Name "self" q1) f q2] (.Name pn q3) q4] scope [] [] fI fd) (S : FnScope ["self", pn] ["self", pn] scope)
    (v1 : scope.names.lookup ("self" : PySem.Str) = some .local) (v2 : scope.names.lookup pn = some .local) (d1 : (pn == ("__debug__" : PySem.Str)) = false) (d2 : (pn == ("__classdict__" : PySem.Str)) = false) :
    FnOk P w K mg base CX (k + 1) fI fd ["self", pn] (spI C 1 fun ws => [(f, ws.headD .non), (cf, .str c)]) := by
  refine FD.ok S (fun vs H Q E ⟨a, ws, h1, h2, _⟩ => by rw [h1]; simp [h2]) fun cdv A outer s H vs Q E hr hsp => ?_
  obtain ⟨a, ws, rfl, hw, ha, hq⟩ := hsp
  obtain ⟨v, rfl⟩ : ∃ v, ws = [v] := by
    cases ws with
    | nil => cases hw
    | cons v r => cases r with
      | nil => exact ⟨v, rfl⟩
      | cons _ _ => cases hw
  refine ⟨_, pss_cons (ps_ostT (X := cxOf CX P w K mg base ["self", pn] qual scope fI cdv A outer s H E) TL T h1 (pe_var (i := 0) rfl (.inl v1)) pe_str rfl)
    (pss_one (ps_ostT (X := cxOf CX P w K mg base ["self", pn] qual scope fI cdv A outer s H E) TL T h2 (pe_var (i := 0) rfl (.inl v1)) (pe_var (i := 1) rfl (.inl v2) d1 d2) rfl)), ?_⟩
  refine ⟨.ref a, rfl, a, rfl, .inl ⟨ha, fun dx hd hne => ?_⟩⟩
  refine ⟨v, rfl, .ref a, rfl, a, rfl, .inr ⟨dx, [(cf, .str c)], upd_same, by rw [upd_ne hne, upd_same], by simp, ?_⟩⟩
  refine hq dx _ hd hne ?_ upd_same fun b h1 h2 => by rw [upd_ne h2, upd_ne h1, upd_ne h2]
  rw [upd_ne (Ne.symm hne), upd_same]
end
/-! ### C(..) as a value -/
theorem exoL_ok {P : Program} {w : World} {H : Hp} {h : Heap} {a C d : Addr} {oe : Obj} {vs : Array Value} (e : h.get? a = some oe) (z : Zc (.ref C) (some d) oe) (hd : oe.data = .fields vs) : ObjOk P w H h a (exoL a C d) :=
  ⟨⟨oe, vs, e, z, hd⟩, ⟨oe, e⟩, fun _ _ ⟨o, v, q, r⟩ k => ⟨o, v, k o q, r⟩⟩
section
variable {X : Cx} {pins : List (Addr × Obj)} {σ : L2.St} {H H1 H2 : Hp} {s s' : Shared} {a C d dx : Addr} {fs : List (PySem.Str × V)}
/-- an error that has been made is told as one -/
theorem Inv.told (I : Inv X pins σ H s) (ea : H a = some (exo a C (some d))) (ed : H d = some (exd d fs)) : Inv X pins σ (upd (upd H d (.xd fs)) a (exoL a C d)) s := by
  have na : ∀ {b : Addr}, H b = none → b ≠ a := fun {b} n z => by rw [z, ea] at n; cases n
  have nd : ∀ {b : Addr}, H b = none → b ≠ d := fun {b} n z => by rw [z, ed] at n; cases n
  have hda : d ≠ a := fun z => by
    obtain ⟨t0, hoe⟩ := exo_at I.hok ea
    obtain ⟨mA, hns, rel⟩ := exd_at I.hok ed
    obtain ⟨o, es, ep, e1, e2, _⟩ := hns
    rw [z, hoe] at e1
    have z2 := Option.some.inj e1
    subst z2
    cases e2
  have U : Un X.fs [] H (upd (upd H d (.xd fs)) a (exoL a C d)) s.heap s.heap := {
    keep := fun b o q n _ _ => q
    slot := fun b o q n _ _ => ⟨o.slots, q⟩
    free := fun b o q n _ => by rw [upd_ne (na n), upd_ne (nd n)]; exact n
    there := fun b o q _ => ⟨o, q⟩
    tups := fun b xs q => by rw [upd_ne (at_ne ea q exo_tup), upd_ne (at_ne ed q exd_tup)]; exact q
    frzs := fun b o v q => by rw [upd_ne (at_ne ea q exo_frz), upd_ne (at_ne ed q fun z => by have z' : HO.ext _ = HO.frz _ _ := z; cases z')]; exact q
    tbls := fun b ps q => ⟨#[], by rw [upd_ne (at_ne ea q exo_tbl), upd_ne (at_ne ed q fun z => by have z' : HO.ext _ = HO.tbl _ := z; cases z'), q]; simp⟩ }
  have hok : HOk X.prog X.w (upd (upd H d (.xd fs)) a (exoL a C d)) s.heap := fun b o q => by
    by_cases hb : b = a
    · subst hb
      rw [upd_same] at q
      cases q
      obtain ⟨t0, hoe⟩ := exo_at I.hok ea
      exact exoL_ok hoe ⟨rfl, rfl⟩ rfl
    · rw [upd_ne hb] at q
      by_cases hd : b = d
      · subst hd
        rw [upd_same] at q
        cases q
        obtain ⟨mA, hns, rel⟩ := exd_at I.hok ed
        exact ⟨mA, hns, rel⟩
      · rw [upd_ne hd] at q
        exact (I.hok b o q).stay (fun c v hc z => z) (fun c hc => by rw [upd_ne (at_ne ea hc exo_own), upd_ne (at_ne ed hc exd_own)]; exact hc) (fun c xs hc => by rw [upd_ne (at_ne ea hc exo_tup), upd_ne (at_ne ed hc exd_tup)]; exact hc)
  exact I.un (t' := s.toks) U hok
end
def tMkE (C : Addr) (n : Nat) (fs : List V → List (PySem.Str × V)) (ta : TA) : TE := fun σ H Q => ta σ H fun vs H1 => vs.length = n ∧ ∀ a dx, H1 a = none → H1 dx = none → dx ≠ a → Q (.ref a) (upd (upd H1 dx (.xd (fs vs))) a (exoL a C dx))
section
variable {tl : List Value} {B newId initId : String} {X : Cx} {CX : CXT} {C fI : Addr} {k n : Nat} {fd : FuncData} {ps : List PySem.Str} {fs : List V → List (PySem.Str × V)} {x : PySem.Str} {p pos : Pos} {e : Expr} {es : List Expr} {ta : TA}
theorem run_mkE {pins : List (Addr × Obj)} {σ : L2.St} {H : Hp} {s : Shared} {Q : VK} {us : List Value} {kw : List (PySem.Str × Value)} {binds : List Value} {vs : List V} (TL : PySem.GX.TlF tl B newId initId) (T : OexT X.K C tl newId) (iC : PySem.W.findIn X.K (.ref C) "__init__" = some (some (.ref fI))) (tI : PySem.W.typeIn X.K (.ref fI) = some (.type "function"))
    (F1 : FnOk X.prog X.w X.K X.mg X.base (L2.CX X.prog X.w) k fI fd ps (spI C n fs)) (hr : Room (k + 1) X.A) (I : Inv X pins σ H s) (hl : us.length ≤ 1000)
    (hb : ∀ (s' : Shared) (a : Addr), X.K.In s'.heap → BindsTo s' fd ⟨.ref a :: us, kw⟩ (ps.zip (.ref a :: binds))) (r : Vals vs binds) (hn : vs.length = n)
    (h : ∀ a dx, H a = none → H dx = none → dx ≠ a → Q (.ref a) (upd (upd H dx (.xd (fs vs))) a (exoL a C dx))) : wpAny (model X.prog X.w) X.A (call (.ref C) us kw) (EP X pins σ Q) X.xe s := by
  obtain ⟨nm, q, N, bs, bm, sn, sub, ab, col, dd, k0, k1, k2, k3, k5, hC, hbm⟩ := T.cls
  obtain ⟨hp, g, dr, tk, os⟩ := s
  have hsz : hp.objs.size ≤ hp.objs.size + 1 := Nat.le_succ _
  have hn1 : H (hp.objs.size + 1) = none := I.hok.fresh hsz
  have kk : ∀ b o, hp.get? b = some o → ((hp.push (PySem.W.kdv_tup us)).push (PySem.HandSPX.excO C hp.objs.size)).get? b = some o := fun b o e => Heap.get?_push_of_some _ (Heap.get?_push_of_some _ e)
  have hget : ((hp.push (PySem.W.kdv_tup us)).push (PySem.HandSPX.excO C hp.objs.size)).get? (hp.objs.size + 1) = some (PySem.HandSPX.excO C hp.objs.size) := by heap_get
  have I2 : Inv X pins σ (upd H (hp.objs.size + 1) (exo (hp.objs.size + 1) C none)) ⟨(hp.push (PySem.W.kdv_tup us)).push (PySem.HandSPX.excO C hp.objs.size), g, dr, tk, os⟩ :=
    I.laid (t' := tk) (a := hp.objs.size + 1) (o := exo (hp.objs.size + 1) C none) (h' := (hp.push (PySem.W.kdv_tup us)).push (PySem.HandSPX.excO C hp.objs.size)) kk hsz (exo_ok hget)
  have r2 : Vals (V.ref (hp.objs.size + 1) :: vs) (Value.ref (hp.objs.size + 1) :: binds) := .cons rfl r
  have hus : us.length ≤ sizeLine := by rw [sizeLine_eq]; omega
  have hq : spI C n fs (V.ref (hp.objs.size + 1) :: vs) (upd H (hp.objs.size + 1) (exo (hp.objs.size + 1) C none))
      (fun v H' => v = .non ∧ ∃ dx, H dx = none ∧ dx ≠ hp.objs.size + 1 ∧ H' (hp.objs.size + 1) = some (exo (hp.objs.size + 1) C (some dx)) ∧ H' dx = some (exd dx (fs vs)) ∧ ∀ b, b ≠ hp.objs.size + 1 → b ≠ dx → H' b = H b) (fun _ _ _ => False) := by
    refine ⟨_, vs, rfl, hn, upd_same, fun dx H' h1 h2 h3 h4 h5 => ⟨rfl, dx, ?_, h2, h3, h4, fun b b1 b2 => ?_⟩⟩
    · rw [upd_ne h2] at h1; exact h1
    · rw [h5 b b1 b2, upd_ne b1]
  refine wpAny_call (PySem.GX.call_kw TL.F (fun Y => PySem.GX.refsT_contains Y bm hbm) (I.kIn _ _ hC) (PySem.W.looks_findIn I.kIn iC) (fun self => PySem.W.bind_fn I.kIn self tI) hus
    (codeAny_mono (F1.run _ X.stack _ _ ⟨Value.ref (hp.objs.size + 1) :: us, kw⟩ (Value.ref (hp.objs.size + 1) :: binds) _ _ (fun _ _ _ => False) (hr.make C us kw) (I2.env0.make C us kw) (hb _ _ I2.kIn) r2 hq) fun r s' hq' => ?_))
  cases r with
  | error er =>
    obtain ⟨a, B, H', cls, d, _, _, _, _, _, _, _, z⟩ := hq'
    exact z.elim
  | ok fl =>
    cases fl with
    | ret u =>
      obtain ⟨v, H', I3, rv, ev, dx, d1, d2, d3, d4, d5⟩ := I2.after hq'
      subst ev
      refine ⟨rv, ⟨V.ref (hp.objs.size + 1), _, Inv.told I3 d3 d4, rfl, ?_⟩⟩
      have e : upd (upd H' dx (.xd (fs vs))) (hp.objs.size + 1) (exoL (hp.objs.size + 1) C dx) = upd (upd H dx (.xd (fs vs))) (hp.objs.size + 1) (exoL (hp.objs.size + 1) C dx) := by
        funext b
        by_cases b1 : b = hp.objs.size + 1
        · rw [b1, upd_same, upd_same]
        · rw [upd_ne b1, upd_ne b1]
          by_cases b2 : b = dx
          · rw [b2, upd_same, upd_same]
          · rw [upd_ne b2, upd_ne b2, d5 b b1 b2]
      rw [e]
      exact h _ dx hn1 d1 d2
    | next => exact False.elim hq'
    | brk => exact False.elim hq'
    | cont => exact False.elim hq'
end
end G
set_option Elab.async false
set_option linter.all false
set_option maxRecDepth 100000
set_option maxHeartbeats 4000000
/-! Errors: made, their fields read, isinstance; methods. -/
namespace G
open PySem PySem.Spec PyProof.Rows L2
def fsV1 (Z : Stat) (vvs : List V) (p : Nat × (Nat ⊕ MV)) : PySem.Str × V := (Z.fn p.1, match p.2 with
  | .inl i => vvs.getD i .non
  | .inr (.str s) => .str (S8 s)
  | .inr _ => .non)
def fsV (Z : Stat) (l : List (Nat × (Nat ⊕ MV))) (vvs : List V) : List (PySem.Str × V) := l.map (fsV1 Z vvs)
def efsOk : List (Nat × (Nat ⊕ MV)) → Bool
  | [] => true
  | (_, .inl _) :: r => efsOk r
  | (_, .inr (.str s)) :: r => okS s && efsOk r
  | (_, .inr _) :: _ => false
structure ErrC0 (Z : Stat) (efs : Nat → List (Nat × (Nat ⊕ MV))) (P : Program) (w : World) (K : PySem.W.Frag) (mg : PySem.Str → Option Value) (base : Heap) (c : Nat) (x pn : PySem.Str) : Prop where
  ex : ∃ (tl : List Value) (B newId initId : String) (fI : Addr) (fd : FuncData) (ps : List PySem.Str), PySem.GX.TlF tl B newId initId ∧ OexT K (Z.ca c) tl newId ∧ PySem.W.findIn K (.ref (Z.ca c)) "__init__" = some (some (.ref fI)) ∧ PySem.W.typeIn K (.ref fI) = some (.type "function") ∧
    FnOk P w K mg base (L2.CX P w) 1 fI fd ps (spI (Z.ca c) (excN (efs c)) (fsV Z (efs c))) ∧ Binds K fd ps [] ∧ ps.length = excN (efs c) + 1 ∧
    (excN (efs c) = 1 → ∀ (s' : Shared) (a : Addr) (u : Value), K.In s'.heap → BindsTo s' fd ⟨[.ref a], [(pn, u)]⟩ (ps.zip [.ref a, u]))
  mg : mg x = some (.ref (Z.ca c))
  eo : efsOk (efs c) = true
  le : excN (efs c) ≤ 1
abbrev ErrC (Z : Stat) (D : Ds) (X : Cx) (c : Nat) (x pn : PySem.Str) : Prop := ErrC0 Z D.efs X.prog X.w X.K X.mg X.base c x pn
section
variable {Z : Stat} {W : WX} {D : Ds} {X : Cx} {pos : Pos} {ρ ρ' : Rho} {H H' : Hp} {σ : L2.St} {h : MHp}
theorem excFs_rel {vs : List MV} {vvs : List V} (r : RVs Z ρ H vs vvs) : ∀ {l : List (Nat × (Nat ⊕ MV))} {fs : List (Nat × MV)}, efsOk l = true → excFs l vs = some fs → RVf Z ρ H fs (fsV Z l vvs)
  | [], fs, _, e => by
    cases (Option.some.inj e)
    simp only [RVf, fsV, List.map_nil]
  | (f, .inl i) :: l, fs, ho, e => by
    simp only [excFs] at e
    cases q : vs[i]? with
    | none => rw [q] at e; cases e
    | some v =>
      rw [q] at e
      dsimp only at e
      cases q2 : excFs l vs with
      | none => rw [q2] at e; cases e
      | some gs =>
        rw [q2] at e
        cases (Option.some.inj e)
        obtain ⟨vv, h1, h2⟩ := r.get q
        simp only [RVf, fsV, List.map_cons]
        refine ⟨vv, _, ?_, h2, excFs_rel r (by simpa only [efsOk] using ho) q2⟩
        simp [fsV1, fsV, List.getD, h1]
  | (f, .inr (.str s)) :: l, fs, ho, e => by
    simp only [excFs] at e
    simp only [efsOk, Bool.and_eq_true] at ho
    cases q2 : excFs l vs with
    | none => rw [q2] at e; cases e
    | some gs =>
      rw [q2] at e
      cases (Option.some.inj e)
      simp only [RVf, fsV, List.map_cons]
      exact ⟨.str (S8 s), _, rfl, RV.mkStr ho.1, excFs_rel r ho.2 q2⟩
  | (f, .inr .non) :: l, fs, ho, e => by simp [efsOk] at ho
  | (f, .inr (.bl _)) :: l, fs, ho, e => by simp [efsOk] at ho
  | (f, .inr (.int _)) :: l, fs, ho, e => by simp [efsOk] at ho
  | (f, .inr (.tup _)) :: l, fs, ho, e => by simp [efsOk] at ho
  | (f, .inr (.ref _)) :: l, fs, ho, e => by simp [efsOk] at ho
  | (f, .inr (.cls _)) :: l, fs, ho, e => by simp [efsOk] at ho
  | (f, .inr (.exc _ _)) :: l, fs, ho, e => by simp [efsOk] at ho
  | (f, .inr (.frl _)) :: l, fs, ho, e => by simp [efsOk] at ho
  | (f, .inr (.wrl _)) :: l, fs, ho, e => by simp [efsOk] at ho
  | (f, .inr (.frd _)) :: l, fs, ho, e => by simp [efsOk] at ho
  | (f, .inr (.obj _ _)) :: l, fs, ho, e => by simp [efsOk] at ho
theorem upd2_fresh {a dx : Addr} {o u : HO} (h1 : H a = none) (h2 : H dx = none) (h3 : dx ≠ a) : (upd H dx o) a = none := by rw [upd_ne (Ne.symm h3)]; exact h1
/-- behind C(..): what the reading gives -/
theorem mkexc_post {c : Nat} {vs : List MV} {vvs : List V} {h1 : MHp} {ρ1 : Rho} {H1 : Hp} {Q : VK} (eo : efsOk (D.efs c) = true) (r1 : HR Z ρ1 h1 H1) (rvs : RVs Z ρ1 H1 vs vvs)
    (p1 : Post Z W ρ1 H1 σ (if c < D.nx ∧ vs.length = excN (D.efs c) then (match excFs (D.efs c) vs with | some fs => G.R.ok (.exc c fs) h1 | none => G.R.no) else G.R.no) fun v _ ρ' H' => ∀ vv, RV Z ρ' H' v vv → Q vv H') :
    vvs.length = excN (D.efs c) ∧ c < D.nx ∧ ∀ a dx, H1 a = none → H1 dx = none → dx ≠ a → Q (.ref a) (upd (upd H1 dx (.xd (fsV Z (D.efs c) vvs))) a (exoL a (Z.ca c) dx)) := by
  by_cases hc : c < D.nx ∧ vs.length = excN (D.efs c)
  · rw [if_pos hc] at p1
    refine ⟨by rw [← rvs.length]; exact hc.2, hc.1, fun a dx h2 h3 h4 => ?_⟩
    cases q : excFs (D.efs c) vs with
    | none => rw [q] at p1; exact p1.elim
    | some fs =>
      rw [q] at p1
      have h5 : (upd H1 dx (.xd (fsV Z (D.efs c) vvs))) a = none := upd2_fresh (u := .xd []) h2 h3 h4
      have ex := (Ext.fresh (ρ := ρ1) (o := .xd (fsV Z (D.efs c) vvs)) h3).trans (Ext.fresh (o := exoL a (Z.ca c) dx) h5)
      refine p1 ρ1 _ ex ((r1.fresh h3).fresh h5) _ ?_
      simp only [RV]
      refine ⟨a, dx, _, rfl, upd_same, by rw [upd_ne h4, upd_same], (excFs_rel rvs eo q).ext ex⟩
  · rw [if_neg hc] at p1
    exact p1.elim
theorem pe_mkE {c : Nat} {x pn : PySem.Str} {p1 : Pos} {e : Expr} {es : List Expr} {ta : TA} (EC : ErrC Z D X c x pn) (hr : Room 2 X.A) (hg : Gl X x) (hdb : (x == ("__debug__" : PySem.Str)) = false) (ha : PA X (e :: es) ta)
    (he : starEach (e :: es) X.env = (false, eval e X.env) :: starEach es X.env) (hpl : (backTo pos (starEach es X.env)).any (·.1) = false) : PE X (.Call (.Name x p1) (e :: es) [] pos) (tMkE (Z.ca c) (excN (D.efs c)) (fsV Z (D.efs c)) ta) := by
  refine ⟨fun pins s σ H Q I h => ?_⟩
  obtain ⟨tl, B, newId, initId, fI, fd, ps, TL, T, iC, tI, F1, hb, hps, _⟩ := EC.ex
  refine wpAny_Call_Name_kw (ld_glob I hg EC.mg ?_ hdb)
  refine PySem.W.callWith_K (h₀ := X.base) I.ok.mod.kin T.kC (thn (ha.run pos pins s σ H _ I h) fun us s1 ⟨vvs, H1, I1, r1, hn, q⟩ => ⟨I1.kIn, ?_⟩) he hpl
  have hlu : us.length = excN (D.efs c) := by rw [← hn]; exact r1.length.symm
  show wpAny _ _ (call (.ref (Z.ca c)) us) _ _ _
  refine run_mkE TL T iC tI F1 hr I1 (by have := EC.le; omega) (fun s' a k => ?_) r1 hn q
  have b := hb s' (.ref a :: us) k (by simp [hlu, hps])
  rw [List.append_nil] at b
  exact b
theorem pe_mkE0 {c : Nat} {x pn : PySem.Str} {p1 : Pos} (EC : ErrC Z D X c x pn) (hr : Room 2 X.A) (hg : Gl X x) (hdb : (x == ("__debug__" : PySem.Str)) = false) : PE X (.Call (.Name x p1) [] [] pos) (tMkE (Z.ca c) (excN (D.efs c)) (fsV Z (D.efs c)) tNil) := by
  refine ⟨fun pins s σ H Q I h => ?_⟩
  obtain ⟨tl, B, newId, initId, fI, fd, ps, TL, T, iC, tI, F1, hb, hps, _⟩ := EC.ex
  obtain ⟨hn, q⟩ := h
  refine wpAny_Call_Name_kw (ld_glob I hg EC.mg ?_ hdb)
  refine PySem.W.callWith_K0 I.kIn T.kC ?_
  refine run_mkE (us := []) TL T iC tI F1 hr I (by simp) (fun s' a k => ?_) .nil hn q
  have b := hb s' [.ref a] k (by simp [hps, ← hn])
  rw [List.append_nil] at b
  exact b
def tMkEK (C : Addr) (n : Nat) (fs : List V → List (PySem.Str × V)) (te : TE) : TE := fun σ H Q => te σ H fun x H1 => ∃ z, [x] = [z] ∧ 1 = n ∧ ∀ a dx, H1 a = none → H1 dx = none → dx ≠ a → Q (.ref a) (upd (upd H1 dx (.xd (fs [z]))) a (exoL a C dx))
theorem pe_mkEK {c : Nat} {x pn : PySem.Str} {p1 kp : Pos} {e : Expr} {te : TE} (EC : ErrC Z D X c x pn) (hr : Room 2 X.A) (hg : Gl X x) (hdb : (x == ("__debug__" : PySem.Str)) = false) (ha : PE X e te) : PE X (.Call (.Name x p1) [] [⟨some pn, e, kp⟩] pos) (tMkEK (Z.ca c) (excN (D.efs c)) (fsV Z (D.efs c)) te) := by
  refine ⟨fun pins s σ H Q I h => ?_⟩
  obtain ⟨tl, B, newId, initId, fI, fd, ps, TL, T, iC, tI, F1, hb, hps, hk⟩ := EC.ex
  refine wpAny_Call_Name_kw (ld_glob I hg EC.mg ?_ hdb)
  have hkw : PK X [⟨some pn, e, kp⟩] (tCons te tNil) := pk_cons ha pk_nil
  refine PySem.W.callWith_KW0 (h₀ := X.base) I.ok.mod.kin T.kC rfl ?_ rfl
  have h' : tCons te tNil σ H (fun vs H1 => ∃ z, vs = [z] ∧ 1 = excN (D.efs c) ∧ ∀ a dx, H1 a = none → H1 dx = none → dx ≠ a → Q (.ref a) (upd (upd H1 dx (.xd (fsV Z (D.efs c) [z]))) a (exoL a (Z.ca c) dx))) := h
  refine thn (hkw.run pos pins s σ H _ I h') fun ws s2 ⟨zs, H2, I2, rz, z, ez, hn, q⟩ => ⟨I2.kIn, ?_⟩
  subst ez
  cases rz with
  | @cons _ w1 _ _ rzw b =>
    cases b
    show wpAny _ _ (call (.ref (Z.ca c)) [] [(pn, w1)]) _ _ _
    exact run_mkE (us := []) (kw := [(pn, w1)]) (binds := [w1]) TL T iC tI F1 hr I2 (by simp) (fun s' a k => hk hn.symm s' a w1 k) (.cons rzw .nil) hn q
theorem s_mkexc {c : Nat} {x pn : PySem.Str} {p1 : Pos} {e : Expr} {es : List Expr} {ms : Es} (EC : ErrC Z D X c x pn) (hr : Room 2 X.A) (hg : Gl X x) (hdb : (x == ("__debug__" : PySem.Str)) = false) (ha : PA X (e :: es) (tEs Z W D ms))
    (he : starEach (e :: es) X.env = (false, eval e X.env) :: starEach es X.env) (hpl : (backTo pos (starEach es X.env)).any (·.1) = false) : PE X (.Call (.Name x p1) (e :: es) [] pos) (tE Z W D (.mkexc c ms)) := by
  refine PEw (pe_mkE EC hr hg hdb ha he hpl) fun σ H Q ⟨ρ, fr, h, F, R, P⟩ => ⟨ρ, fr, h, F, R, ?_⟩
  refine (Post.bind P).imp fun vs h1 ρ1 H1 e1 r1 p1 vvs rvs => ?_
  obtain ⟨q1, _, q2⟩ := mkexc_post EC.eo r1 rvs p1
  exact ⟨q1, q2⟩
theorem s_mkexc0 {c : Nat} {x pn : PySem.Str} {p1 : Pos} (EC : ErrC Z D X c x pn) (hr : Room 2 X.A) (hg : Gl X x) (hdb : (x == ("__debug__" : PySem.Str)) = false) : PE X (.Call (.Name x p1) [] [] pos) (tE Z W D (.mkexc c .nil)) := by
  refine PEw (pe_mkE0 EC hr hg hdb) fun σ H Q ⟨ρ, fr, h, F, R, P⟩ => ?_
  have p1 : Post Z W ρ H σ (if c < D.nx ∧ ([] : List MV).length = excN (D.efs c) then (match excFs (D.efs c) [] with | some fs => G.R.ok (.exc c fs) h | none => G.R.no) else G.R.no) fun v _ ρ' H' => ∀ vv, RV Z ρ' H' v vv → Q vv H' := P
  obtain ⟨q1, _, q2⟩ := mkexc_post EC.eo R (vs := []) (vvs := []) (by simp only [RVs]) p1
  exact ⟨q1, q2⟩
theorem s_mkexcK {c : Nat} {x pn : PySem.Str} {p1 kp : Pos} {e : Expr} {m : E} (EC : ErrC Z D X c x pn) (hr : Room 2 X.A) (hg : Gl X x) (hdb : (x == ("__debug__" : PySem.Str)) = false) (ha : PE X e (tE Z W D m)) : PE X (.Call (.Name x p1) [] [⟨some pn, e, kp⟩] pos) (tE Z W D (.mkexc c (.cons m .nil))) := by
  refine PEw (pe_mkEK EC hr hg hdb ha) fun σ H Q ⟨ρ, fr, h, F, R, P⟩ => ⟨ρ, fr, h, F, R, ?_⟩
  have P1 := Post.bind P
  have P2 : Post Z W ρ H σ ((evE D m fr h).bind fun x h => (evEs D .nil fr h).bind fun xs h => .ok (x :: xs) h) (fun vs h1 ρ1 H1 => Post Z W ρ1 H1 σ (if c < D.nx ∧ vs.length = excN (D.efs c) then (match excFs (D.efs c) vs with | some fs => G.R.ok (.exc c fs) h1 | none => G.R.no) else G.R.no) fun v _ ρ' H' => ∀ vv, RV Z ρ' H' v vv → Q vv H') := P1
  refine (Post.bind P2).imp fun v h1 ρ1 H1 e1 r1 p1 vv rv => ?_
  have p2 := p1 ρ1 H1 Ext.refl r1
  obtain ⟨q1, _, q2⟩ := mkexc_post EC.eo r1 (RVs.one rv) p2
  exact ⟨vv, rfl, q1, q2⟩
/-! ### fields -/
structure FldC0 (Z : Stat) (nx nf : Nat) (K : PySem.W.Frag) : Prop where
  xf : ∀ c, c < nx → XfC K (Z.ca c)
  no : ∀ c f, c < nx → f < nf → PySem.W.findIn K (.ref (Z.ca c)) (Z.fn f) = some none
  nj : ∀ f g, f < nf → Z.fn f = Z.fn g → f = g
abbrev FldC (Z : Stat) (D : Ds) (X : Cx) : Prop := FldC0 Z D.nx D.nf X.K
theorem fldOf_rel {f : Nat} (nj : ∀ g, Z.fn f = Z.fn g → f = g) : ∀ {fs : List (Nat × MV)} {gs : List (PySem.Str × V)} {v : MV}, RVf Z ρ H fs gs → fldOf f fs = some v → ∃ vv, gs.lookup (Z.fn f) = some vv ∧ RV Z ρ H v vv
  | [], _, _, _, e => by cases e
  | (g, w) :: r, gs, v, rr, e => by
    simp only [RVf] at rr
    obtain ⟨vv, t, rfl, h1, h2⟩ := rr
    unfold fldOf at e
    by_cases hg : g = f
    · rw [if_pos hg] at e
      cases e
      subst hg
      exact ⟨vv, by simp [List.lookup], h1⟩
    · rw [if_neg hg] at e
      obtain ⟨ww, h3, h4⟩ := fldOf_rel nj h2 e
      refine ⟨ww, ?_, h4⟩
      have : (Z.fn f == Z.fn g) = false := by
        have z : ¬ Z.fn f = Z.fn g := fun z => hg (nj g z).symm
        simpa using z
      simp [List.lookup, this, h3]
theorem s_fld {f : Nat} {e : Expr} {m : E} {n : PySem.Str} (FC : FldC Z D X) (hn : n = Z.fn f) (he : PE X e (tE Z W D m)) (hb : attributeBase e n X.env (eval e X.env) = eval e X.env) : PE X (.Attribute e n pos) (tE Z W D (.fld m f)) := by
  subst hn
  refine ⟨fun pins s σ H Q I ⟨ρ, fr, h, F, R, P⟩ => ?_⟩
  have P1 := (Post.bind P).imp (Q' := fun v h1 ρ1 H1 => ∀ vv, RV Z ρ1 H1 v vv → (∃ c fs a d fs' uu, v = .exc c fs ∧ c < D.nx ∧ f < D.nf ∧ vv = .ref a ∧ H1 a = some (exoL a (Z.ca c) d) ∧ H1 d = some (.xd fs') ∧ fs'.lookup (Z.fn f) = some uu ∧ Q uu H1)) fun v h1 ρ1 H1 e1 r1 p1 vv rv => by
    obtain ⟨u, hu, p⟩ := Post.get p1
    cases v <;> try (simp [fldM] at hu; done)
    rename_i c fs
    unfold fldM at hu
    dsimp only at hu
    by_cases hc : c < D.nx ∧ f < D.nf
    · rw [if_pos hc] at hu
      simp only [RV] at rv
      obtain ⟨a, d, fs', rfl, h2, h3, h4⟩ := rv
      obtain ⟨uu, h5, h6⟩ := fldOf_rel (fun g => FC.nj f g hc.2) h4 hu
      exact ⟨c, fs, a, d, fs', uu, rfl, hc.1, hc.2, rfl, h2, h3, h5, p ρ1 H1 Ext.refl r1 uu h6⟩
    · rw [if_neg hc] at hu
      cases hu
  refine attr_of hb (thn (he.run pins s σ H (fun vv H1 => ∃ c a d fs' uu, c < D.nx ∧ f < D.nf ∧ vv = .ref a ∧ H1 a = some (exoL a (Z.ca c) d) ∧ H1 d = some (.xd fs') ∧ fs'.lookup (Z.fn f) = some uu ∧ Q uu H1) I ⟨ρ, fr, h, F, R, P1.imp fun v h1 ρ1 H1 e1 r1 p1 vv rv => ?_⟩) fun u s1 ⟨x, H1, I1, rx, hh⟩ => ?_)
  · obtain ⟨c, fs, a, d, fs', uu, _, h1, h2, h3, h4, h5, h6, h7⟩ := p1 vv rv
    exact ⟨c, a, d, fs', uu, h1, h2, h3, h4, h5, h6, h7⟩
  · obtain ⟨c, a, d, fs', uu, hc, hf, rfl, ha, hd, hl, q⟩ := hh
    obtain rfl : u = Value.ref a := rx
    obtain ⟨⟨oe, vs, ho, hz, hdt⟩, _, _⟩ := I1.hok a _ ha
    have hx : ObjOk X.prog X.w H1 s1.heap d (.xd fs') := I1.hok d _ hd
    obtain ⟨mA, hns, hr⟩ := hx
    obtain ⟨od, ho2, hl2⟩ := lookIn_ns hns
    obtain ⟨u, hu, ru⟩ := RelO.some_of (v := uu) (o := mA (Z.fn f)) (by rw [← hl]; exact hr (Z.fn f))
    have T := FC.xf c hc
    have J : PySem.W.InstAt s1.heap a oe (Z.ca c) (some od) := ⟨ho, hz.1, by unfold PySem.W.notCls; rw [hdt] <;> rfl, by rw [hz.2]; exact ho2⟩
    exact HandSPX.exc_get I1.kIn J T.ga T.gg T.exC (PySem.W.findObj_own T.hdC (FC.no c f hc hf) rfl (by rw [hl2, hu])) (handed_of ru) ⟨uu, H1, I1.tok _, ru, q⟩
end
end G
set_option Elab.async false
set_option linter.all false
set_option maxRecDepth 100000
set_option maxHeartbeats 4000000
/-! isinstance; methods; stores of pairs. -/
namespace G
open PySem PySem.Spec PyProof.Rows L2
def btName : Nat → String
  | 0 => "ValueError"
  | 1 => "LookupError"
  | _ => "IndexError"
def tyS : Ty → String
  | .int => "int"
  | .str => "str"
  | .bool => "bool"
  | .tup => "tuple"
  | .lst => "list"
  | .dic => "dict"
  | .bt n => btName n
  | .cls _ => ""
def tyVal (Z : Stat) : Ty → V
  | .cls c => .ref (Z.ca c)
  | t => .ty (tyS t)
def tyVl (Z : Stat) : Ty → Value
  | .cls c => .ref (Z.ca c)
  | t => .type (tyS t)
theorem ty_cls (Z : Stat) (t : Ty) : ClsV (tyVal Z t) (tyVl Z t) := by cases t <;> first | exact .ty _ | exact .own _
theorem ty_clss (Z : Stat) : ∀ ts : List Ty, Paired ClsV (ts.map (tyVal Z)) (ts.map (tyVl Z))
  | [] => .nil
  | t :: ts => .cons (ty_cls Z t) (ty_clss Z ts)
/-- a value's type, errors too -/
def TyG (K : PySem.W.Frag) (H : Hp) (x : V) (t : Value) : Prop := TyX K H x t ∨ ∃ a C d fs, x = .ref a ∧ t = .ref C ∧ H a = some (exoL a C d) ∧ H d = some (.xd fs) ∧ L2.ExcC K C
structure IsC0 (Z : Stat) (nx : Nat) (sub subB : Nat → Nat → Bool) (K : PySem.W.Frag) : Prop where
  xc : ∀ c, c < nx → L2.ExcC K (Z.ca c)
  cc : ∀ c d, c < nx → d < nx → PySem.W.kitOne K (.ref (Z.ca c)) (.ref (Z.ca d)) = some (sub c d)
  cb : ∀ c n, c < nx → n < 3 → PySem.W.kitOne K (.ref (Z.ca c)) (.type (btName n)) = some (subB c n)
abbrev IsC (Z : Stat) (D : Ds) (X : Cx) : Prop := IsC0 Z D.nx D.sub D.subB X.K
theorem flat_kit {K : PySem.W.Frag} {a : Ty} (ha : a ∈ [Ty.int, .str, .bool, .tup, .lst]) {t : Ty} (ht : t.flat = true) : PySem.W.kitOne K (.type (tyS a)) (.type (tyS t)) = some (t == a || (a == .bool && t == .int)) := by
  simp only [List.mem_cons, List.mem_nil_iff, or_false] at ha
  rcases ha with rfl | rfl | rfl | rfl | rfl <;> cases t <;> first | (simp [Ty.flat] at ht; done) | exact kit_ty (by decide +kernel)
theorem non_kit {K : PySem.W.Frag} {t : Ty} (ht : t.flat = true) : PySem.W.kitOne K (.type "NoneType") (.type (tyS t)) = some false := by
  cases t <;> first | (simp [Ty.flat] at ht; done) | exact kit_ty (by decide +kernel)
theorem tyVl_flat {Z : Stat} {t : Ty} (ht : t.flat = true) : tyVl Z t = .type (tyS t) := by cases t <;> first | rfl | (simp [Ty.flat] at ht; done)
section
variable {Z : Stat} {W : WX} {D : Ds} {X : Cx} {pos : Pos} {ρ ρ' : Rho} {H H' : Hp} {σ : L2.St} {h : MHp}
theorem kit_ofG {pins : List (Addr × Obj)} {s : Shared} {x : V} {u t : Value} (I : Inv X pins σ H s) (rx : RelV x u) (ty : TyG X.K H x t) : ∃ P : Heap → Prop, PySem.W.KitX X.K u t P ∧ P s.heap ∧ u ≠ .builtin "__main__.__loader__#opaque" := by
  rcases ty with ty | ⟨a, C, d, fs, rfl, rfl, ha, hd, T⟩
  · exact kit_of I rx ty
  · obtain rfl : u = Value.ref a := rx
    obtain ⟨⟨oe, vs, ho, hz, hdt⟩, _, _⟩ := I.hok a _ ha
    have hx : ObjOk X.prog X.w H s.heap d (.xd fs) := I.hok d _ hd
    obtain ⟨mA, hns, hr⟩ := hx
    obtain ⟨od, ho2, hl2⟩ := lookIn_ns hns
    have J : PySem.W.InstAt s.heap a oe C (some od) := ⟨ho, hz.1, by unfold PySem.W.notCls; rw [hdt] <;> rfl, by rw [hz.2]; exact ho2⟩
    exact ⟨_, PySem.W.kitx_exc (by obtain ⟨cd, hc, _⟩ := PySem.W.any_some T.hd; rw [hc]; rfl) T.hg T.hk T.hs T.ha T.hn T.ht T.hm, J, fun z => nomatch z⟩
theorem tup_TyX {a : Addr} {vs : List V} (q : TupAt Z.K H a vs) : TyX Z.K H (.ref a) (.type "tuple") := by
  rcases q with q | ⟨o, its, n, lk, hc, _⟩
  · exact .base (.tup q)
  · exact .kTuple lk hc
theorem frl_TyX {a : Addr} {vs : List V} (q : FrlAt Z.K ρ H a vs) : TyX Z.K H (.ref a) (.type "list") := by
  rcases q with ⟨q, _⟩ | ⟨o, q⟩ | ⟨o, its, n, lk, hc, _⟩
  · exact .base (.lst q)
  · exact .base (.frz q)
  · exact .kList lk hc
theorem ty_rel {v : MV} {vv : V} {t0 : Ty} {b0 : Bool} (hK : X.K = Z.K) (IC : IsC Z D X) (R : HR Z ρ h H) (rv : RV Z ρ H v vv) (e0 : tyIs D v h t0 = some b0) : ∃ tv, TyG Z.K H vv tv ∧ ∀ t b, tyIs D v h t = some b → PySem.W.kitOne Z.K tv (tyVl Z t) = some b := by
  have flat : ∀ (a : Ty) (g : Ty → Bool), a ∈ [Ty.int, .str, .bool, .tup, .lst] → (∀ t, t.flat = true → g t = (t == a || (a == .bool && t == .int))) → ∀ t b, (if t.flat then some (g t) else none) = some b → PySem.W.kitOne Z.K (.type (tyS a)) (tyVl Z t) = some b := by
    intro a g ha hg t b e
    by_cases ht : t.flat = true
    · rw [if_pos ht] at e
      rw [tyVl_flat ht, flat_kit ha ht, ← hg t ht]
      exact e
    · rw [if_neg ht] at e
      cases e
  cases v with
  | non =>
    refine ⟨.type "NoneType", .inl ?_, fun t b e => ?_⟩
    · rw [show vv = .non by simpa only [RV] using rv]; exact .base .non
    · have e : (if t.flat then some false else none) = some b := e
      by_cases ht : t.flat = true
      · rw [if_pos ht] at e
        rw [tyVl_flat ht, non_kit ht]
        exact e
      · rw [if_neg ht] at e
        cases e
  | bl c => exact ⟨.type "bool", .inl (by rw [rv.bl]; exact .base (.bl c)), flat .bool (fun t => t == .bool || t == .int) (by decide) (fun t ht => by cases t <;> rfl)⟩
  | int i => exact ⟨.type "int", .inl (by rw [rv.int]; exact .base (.int i)), flat .int (fun t => t == .int) (by decide) (fun t ht => by cases t <;> rfl)⟩
  | str s => exact ⟨.type "str", .inl (by rw [rv.str.1]; exact .base (.str _)), flat .str (fun t => t == .str) (by decide) (fun t ht => by cases t <;> rfl)⟩
  | tup xs =>
    obtain ⟨a, vs, rfl, hq, rs⟩ := rv.tupAt
    exact ⟨.type "tuple", .inl (tup_TyX hq), flat .tup (fun t => t == .tup) (by decide) (fun t ht => by cases t <;> rfl)⟩
  | frl xs =>
    obtain ⟨a, vs, rfl, hq, rs⟩ := rv.frlAt
    exact ⟨.type "list", .inl (frl_TyX hq), flat .lst (fun t => t == .lst) (by decide) (fun t ht => by cases t <;> rfl)⟩
  | cls c => cases e0
  | wrl xs =>
    obtain ⟨a, vs, rfl, hq, rs⟩ := rv.wrlAt
    exact ⟨.type "list", .inl (frl_TyX hq), flat .lst (fun t => t == .lst) (by decide) (fun t ht => by cases t <;> rfl)⟩
  | frd xs => simp only [RV] at rv
  | obj c fs => cases e0
  | ref m =>
    cases q : h.get m with
    | none => simp only [tyIs, q] at e0; cases e0
    | some o =>
      cases o with
      | lst xs =>
        obtain ⟨a, vs, rfl, hm, hq, rs⟩ := R.lst q rv
        refine ⟨.type "list", .inl (.base (.lst hq)), fun t b e => ?_⟩
        simp only [tyIs, q] at e
        exact flat .lst (fun t => t == .lst) (by decide) (fun t ht => by cases t <;> rfl) t b e
      | dic kvs => simp only [tyIs, q] at e0; cases e0
      | ins c fs => simp only [tyIs, q] at e0; cases e0
  | exc c fs =>
    have hc : c < D.nx := by
      cases t0 <;> simp [tyIs] at e0
      · exact e0.1.1
      · exact e0.1.1
    simp only [RV] at rv
    obtain ⟨a, d, fs', rfl, h2, h3, h4⟩ := rv
    refine ⟨.ref (Z.ca c), .inr ⟨a, Z.ca c, d, fs', rfl, rfl, h2, h3, hK ▸ IC.xc c hc⟩, fun t b e => ?_⟩
    cases t <;> simp [tyIs] at e
    · rw [← e.2]; exact hK ▸ IC.cc c _ hc e.1.2
    · rw [← e.2]; exact hK ▸ IC.cb c _ hc e.1.2
theorem any_rel {v : MV} {tv : Value} (hall : ∀ t b, tyIs D v h t = some b → PySem.W.kitOne Z.K tv (tyVl Z t) = some b) : ∀ {ts : List Ty} {b : Bool}, tyAny D v h ts = some b → PySem.W.kitAny Z.K tv (ts.map (tyVl Z)) = some b
  | [], b, e => e
  | t :: ts, b, e => by
    unfold tyAny at e
    simp only [List.map_cons]
    unfold PySem.W.kitAny
    cases q : tyIs D v h t with
    | none => rw [q] at e; cases e
    | some c =>
      rw [q] at e
      rw [hall t c q]
      cases c with
      | true => exact e
      | false => exact any_rel hall e
theorem ty_bltn {t : Ty} {x : PySem.Str} {p : Pos} (ht : ∀ c, t ≠ .cls c) (hx : x = PySem.Str.ofString (tyS t)) (hg : Gl X x) (hm : X.mg x = none) : PE X (.Name x p) (tC (tyVal Z t)) := by
  cases t with
  | cls c => exact absurd rfl (ht c)
  | int => subst hx; exact pe_bltn hg hm (by with_unfolding_all rfl) rfl (by decide) (by decide)
  | str => subst hx; exact pe_bltn hg hm (by with_unfolding_all rfl) rfl (by decide) (by decide)
  | bool => subst hx; exact pe_bltn hg hm (by with_unfolding_all rfl) rfl (by decide) (by decide)
  | tup => subst hx; exact pe_bltn hg hm (by with_unfolding_all rfl) rfl (by decide) (by decide)
  | lst => subst hx; exact pe_bltn hg hm (by with_unfolding_all rfl) rfl (by decide) (by decide)
  | dic => subst hx; exact pe_bltn hg hm (by with_unfolding_all rfl) rfl (by decide) (by decide)
  | bt n =>
    match n with
    | 0 => subst hx; exact pe_bltn hg hm (by with_unfolding_all rfl) rfl (by decide) (by decide)
    | 1 => subst hx; exact pe_bltn hg hm (by with_unfolding_all rfl) rfl (by decide) (by decide)
    | n + 2 => subst hx; exact pe_bltn hg hm (by with_unfolding_all rfl) rfl (by show PySem.Str.ofString "IndexError" ≠ PySem.Str.ofString "__name__"; decide) (by show (PySem.Str.ofString "IndexError" == PySem.Str.ofString "__debug__") = false; decide)
theorem ty_own {c : Nat} {x : PySem.Str} {p : Pos} (hg : Gl X x) (hm : X.mg x = some (.ref (Z.ca c))) (hd : (x == ("__debug__" : PySem.Str)) = false) : PE X (.Name x p) (tC (tyVal Z (.cls c))) := pe_glob hg hm rfl hd
theorem s_isin1 {e T : Expr} {m : E} {t : Ty} {p1 : Pos} (hK : X.K = Z.K) (IC : IsC Z D X) (hg : Gl X "isinstance") (hm : X.mg "isinstance" = none) (he : PE X e (tE Z W D m)) (hT : PE X T (tC (tyVal Z t)))
    (hs : starEach [e, T] X.env = (false, eval e X.env) :: starEach [T] X.env) (hs2 : starEach [T] X.env = (false, eval T X.env) :: starEach [] X.env) (hpl : (backTo pos (starEach [T] X.env)).any (·.1) = false) : PE X (.Call (.Name "isinstance" p1) [e, T] [] pos) (tE Z W D (.isin m [t])) := by
  have hc : CallR X (.builtin "isinstance") (fun xs H Q => ∃ (x : V) (tv : Value) (b : Bool), xs = [x, tyVal Z t] ∧ TyG X.K H x tv ∧ PySem.W.kitOne X.K tv (tyVl Z t) = some b ∧ Q (.bl b) H) := by
    intro pins s σ H xs us Q I r hh
    obtain ⟨x, tv, b, rfl, ty, e, q⟩ := hh
    obtain ⟨u1, u2, rfl, r1, r2⟩ := vals2 r
    have e2 := (ty_cls Z t).eq r2
    subst e2
    obtain ⟨P, K1, p, hx⟩ := kit_ofG I r1 ty
    exact PySem.W.kia_one K1 I.kIn p e hx fun tk => ⟨.bl b, H, I.tok tk, rfl, q⟩
  have ha : PA X [e, T] (tCons (tE Z W D m) (tCons (tC (tyVal Z t)) tNil)) := pa_cons he (pa_cons hT pa_nil hs2) hs
  refine PEw (pe_callB hc hg hm (by with_unfolding_all rfl) ha (by decide) (by decide) hs hpl) fun σ H Q ⟨ρ, fr, h, F, R, P⟩ => ⟨ρ, fr, h, F, R, ?_⟩
  refine (Post.bind P).imp fun v h1 ρ1 H1 e1 r1 p1 vv rv => ?_
  obtain ⟨u, hu, p⟩ := Post.get p1
  cases q : tyAny D v h1 [t] with
  | none => rw [q] at hu; cases hu
  | some b =>
    rw [q] at hu
    cases hu
    have q1 : ∃ c, tyIs D v h1 t = some c := by
      unfold tyAny at q
      cases z : tyIs D v h1 t with
      | none => rw [z] at q; cases q
      | some c => exact ⟨c, rfl⟩
    obtain ⟨c, hc1⟩ := q1
    have hcb : c = b := by
      unfold tyAny at q
      rw [hc1] at q
      cases c with
      | true => exact Option.some.inj q
      | false => exact Option.some.inj q
    obtain ⟨tv, T1, T2⟩ := ty_rel hK IC r1 rv hc1
    exact ⟨vv, tv, b, rfl, hK ▸ T1, by rw [hK, ← hcb]; exact T2 t c hc1, p ρ1 H1 Ext.refl r1 _ (RV.mkBl _)⟩
theorem s_isinT {e : Expr} {Ts : List Expr} {m : E} {ts : List Ty} {k : Nat} {p1 p2 : Pos} (hK : X.K = Z.K) (IC : IsC Z D X) (hg : Gl X "isinstance") (hm : X.mg "isinstance" = none) (he : PE X e (tE Z W D m)) (hT : PA X Ts (fun _ H Q => Q (ts.map (tyVal Z)) H)) (hne : ts ≠ []) (hl : ts.length ≤ 100)
    (hs : starEach [e, .Tuple Ts k p2] X.env = (false, eval e X.env) :: starEach [.Tuple Ts k p2] X.env) (hpl : (backTo pos (starEach [.Tuple Ts k p2] X.env)).any (·.1) = false) : PE X (.Call (.Name "isinstance" p1) [e, .Tuple Ts k p2] [] pos) (tE Z W D (.isin m ts)) := by
  have hc : CallR X (.builtin "isinstance") (fun xs H Q => ∃ (x : V) (tp : Addr) (tv : Value) (b : Bool), xs = [x, .ref tp] ∧ H tp = some (.tup (ts.map (tyVal Z))) ∧ TyG X.K H x tv ∧ PySem.W.kitAny X.K tv (ts.map (tyVl Z)) = some b ∧ Q (.bl b) H) := by
    intro pins s σ H xs us Q I r hh
    obtain ⟨x, tp, tv, b, rfl, hT, ty, e, q⟩ := hh
    obtain ⟨u1, u2, rfl, r1, r2⟩ := vals2 r
    cases (show u2 = Value.ref tp from r2)
    obtain ⟨P, K1, p, hx⟩ := kit_ofG I r1 ty
    obtain ⟨_, its, rv, o, h1, h2, n, h3⟩ := (show ObjOk X.prog X.w H s.heap tp (.tup (ts.map (tyVal Z))) from I.hok tp _ hT)
    have e3 := ClsV.all (ty_clss Z ts) rv
    subst e3
    obtain ⟨oc, od, dt, sl⟩ := o
    simp only at h2 h3
    subst h2 h3
    exact PySem.W.kia_tup K1 I.kIn p h1 e hx fun tk => ⟨.bl b, H, I.tok tk, rfl, q⟩
  have hTup : PE X (.Tuple Ts k p2) (tTup (fun _ H Q => Q (ts.map (tyVal Z)) H)) := pe_tup hT
  have hs2 : starEach [.Tuple Ts k p2] X.env = (false, eval (.Tuple Ts k p2) X.env) :: starEach [] X.env := rfl
  have ha : PA X [e, .Tuple Ts k p2] (tCons (tE Z W D m) (tCons (tTup (fun _ H Q => Q (ts.map (tyVal Z)) H)) tNil)) := pa_cons he (pa_cons hTup pa_nil hs2) hs
  refine PEw (pe_callB hc hg hm (by with_unfolding_all rfl) ha (by decide) (by decide) hs hpl) fun σ H Q ⟨ρ, fr, h, F, R, P⟩ => ⟨ρ, fr, h, F, R, ?_⟩
  refine (Post.bind P).imp fun v h1 ρ1 H1 e1 r1 p1 vv rv => ?_
  obtain ⟨u, hu, p⟩ := Post.get p1
  refine ⟨by rw [List.length_map, sizeLine_eq]; omega, fun tp htp => ?_⟩
  cases q : tyAny D v h1 ts with
  | none => rw [q] at hu; cases hu
  | some b =>
    rw [q] at hu
    cases hu
    have q1 : ∃ t c, tyIs D v h1 t = some c := by
      cases ts with
      | nil => exact absurd rfl hne
      | cons t r =>
        unfold tyAny at q
        cases z : tyIs D v h1 t with
        | none => rw [z] at q; cases q
        | some c => exact ⟨t, c, z⟩
    obtain ⟨t, c, hc1⟩ := q1
    have ex := Ext.fresh (ρ := ρ1) (o := .tup (ts.map (tyVal Z))) htp
    have R2 := r1.fresh (u := .tup (ts.map (tyVal Z))) htp
    obtain ⟨tv, T1, T2⟩ := ty_rel hK IC R2 (rv.ext ex) hc1
    exact ⟨vv, tp, tv, b, rfl, upd_same, hK ▸ T1, by rw [hK]; exact any_rel T2 q, p ρ1 _ ex R2 _ (RV.mkBl _)⟩
end
end G
set_option Elab.async false
set_option linter.all false
set_option maxRecDepth 100000
set_option maxHeartbeats 4000000
/-! Methods; stores of pairs and triples; op=. -/
namespace G
open PySem PySem.Spec PyProof.Rows L2
section
variable {Z : Stat} {W : WX} {D : Ds} {X : Cx} {pos : Pos} {ρ ρ' : Rho} {H H' : Hp} {σ : L2.St} {h : MHp}
theorem par_post {De : Ends} {fr : Fr} {ms : Es} {t : Tg} (F : FR Z ρ H fr σ) (P : PostC Z W ρ H De (exS D (.asg t (.tup ms)) fr h)) :
    Post Z W ρ H σ (evEs D ms fr h) fun vs h1 ρ1 H1 => PostC Z W ρ1 H1 De ((evT D t (.tup vs) fr h1).calm fun fr h => .ok (.nx fr) h) := by
  refine (Post.bind (PostC.lift F P)).imp fun vs h1 ρ1 H1 e1 r1 p1 => ?_
  by_cases hl : vs.length ≤ lineN
  · rw [if_pos hl] at p1
    exact p1 ρ1 H1 Ext.refl r1
  · rw [if_neg hl] at p1
    exact p1.elim
theorem evT_len {ts : Tgs} {xs : List MV} {fr : Fr} (hl : xs.length ≠ tgsN ts) : evT D (.tup ts) (.tup xs) fr h = G.R.no := by
  unfold evT
  exact if_neg hl
theorem s_par {i j : Nat} {x y : PySem.Str} {a b : Expr} {ms : Es} {px py pt : Pos} {kt k2 pt2} (hc : X.calm = true) (hN : X.N.Nodup) (hi : X.N[i]? = some x) (hj : X.N[j]? = some y) (hij : i ≠ j)
    (hx : X.env.scope.names.lookup x = some .local) (hy : X.env.scope.names.lookup y = some .local) (ha : PA X [a, b] (tEs Z W D ms))
    (hw : swappedStores [.Tuple [.Name x px, .Name y py] kt pt] (.Tuple [a, b] k2 pt2) X.env = pure (some [x, y]))
    (hs : swapsWithSole [.Tuple [.Name x px, .Name y py] kt pt] (.Tuple [a, b] k2 pt2) pos.line X.env = pure false) :
    PS X (.Assign [.Tuple [.Name x px, .Name y py] kt pt] (.Tuple [a, b] k2 pt2) pos) (tS Z W D (.asg (.tup (.cons (.v i) (.cons (.v j) .nil))) (.tup ms))) := by
  refine PSw (ps_par hc hN hi hj hij hx hy ha hw hs) fun De σ H ⟨ρ, fr, h, F, R, P⟩ => ⟨ρ, fr, h, F, R, ?_⟩
  refine (par_post F P).imp fun vs h1 ρ1 H1 e1 r1 p1 vvs rvs => ?_
  match vs, rvs, p1 with
  | [], _, p1 => exact p1.elim
  | [_], _, p1 => exact p1.elim
  | _ :: _ :: _ :: r, _, p1 =>
    rw [evT_len (by simp [tgsN])] at p1
    exact p1.elim
  | [v, w], rvs, p1 =>
    obtain ⟨vv, ww, rfl, rv, rw'⟩ := rvs.two_of
    exact ⟨vv, ww, rfl, PostC.now r1 (c := .nx ((fr.set i (some v)).set j (some w))) p1 _ (((F.ext e1).set rv).set rw')⟩
theorem s_par3 {i j k : Nat} {x y z : PySem.Str} {a b c : Expr} {ms : Es} {px py pz pt : Pos} {kt k2 pt2} (hc : X.calm = true) (hN : X.N.Nodup) (hi : X.N[i]? = some x) (hj : X.N[j]? = some y) (hk : X.N[k]? = some z) (hij : i ≠ j) (hik : i ≠ k) (hjk : j ≠ k)
    (hx : X.env.scope.names.lookup x = some .local) (hy : X.env.scope.names.lookup y = some .local) (hz : X.env.scope.names.lookup z = some .local) (ha : PA X [a, b, c] (tEs Z W D ms))
    (hw : swappedStores [.Tuple [.Name x px, .Name y py, .Name z pz] kt pt] (.Tuple [a, b, c] k2 pt2) X.env = pure (some [x, y, z]))
    (hs : swapsWithSole [.Tuple [.Name x px, .Name y py, .Name z pz] kt pt] (.Tuple [a, b, c] k2 pt2) pos.line X.env = pure false) :
    PS X (.Assign [.Tuple [.Name x px, .Name y py, .Name z pz] kt pt] (.Tuple [a, b, c] k2 pt2) pos) (tS Z W D (.asg (.tup (.cons (.v i) (.cons (.v j) (.cons (.v k) .nil)))) (.tup ms))) := by
  refine PSw (ps_par3 hc hN hi hj hk hij hik hjk hx hy hz ha hw hs) fun De σ H ⟨ρ, fr, h, F, R, P⟩ => ⟨ρ, fr, h, F, R, ?_⟩
  refine (par_post F P).imp fun vs h1 ρ1 H1 e1 r1 p1 vvs rvs => ?_
  match vs, rvs, p1 with
  | [], _, p1 => exact p1.elim
  | [_], _, p1 => exact p1.elim
  | [_, _], _, p1 => exact p1.elim
  | _ :: _ :: _ :: _ :: r, _, p1 =>
    rw [evT_len (by simp [tgsN])] at p1
    exact p1.elim
  | [v, w, u], rvs, p1 =>
    simp only [RVs] at rvs
    obtain ⟨vv, t1, rfl, rv, ww, t2, rfl, rw', uu, t3, rfl, ru, rfl⟩ := rvs
    exact ⟨vv, ww, uu, rfl, PostC.now r1 (c := .nx (((fr.set i (some v)).set j (some w)).set k (some u))) p1 _ ((((F.ext e1).set rv).set rw').set ru)⟩
/-! ### methods -/
theorem s_append {o e : Expr} {mo : E} {ms : Es} {apos : Pos} (hK : X.K = Z.K) (ho : PE X o (tE Z W D mo)) (ha : PA X [e] (tEs Z W D ms)) (hbase : attributeBase o "append" X.env (eval o X.env) = eval o X.env) (hline : (apos.endLine == pos.line) = true)
    (hs : starEach [e] X.env = (false, eval e X.env) :: starEach [] X.env) : PE X (.Call (.Attribute o "append" apos) [e] [] pos) (tE Z W D (.bm .append mo ms)) := by
  refine PEw (pe_bm PySem.F.plainAttrs_list PySem.F.slot_list_append PySem.F.type_list_append mt_append ho ha hbase (by rw [hs]; rfl) hline hs rfl) fun σ H Q ⟨ρ, fr, h, F, R, P⟩ => ⟨ρ, fr, h, F, R, ?_⟩
  refine (Post.bind P).imp fun x h1 ρ1 H1 e1 r1 p1 xx rx => ?_
  by_cases hp : bmPre .append x h1 = true
  · rw [if_pos hp] at p1
    cases x <;> try (simp [bmPre] at hp; done)
    rename_i m
    cases q : h1.get m with
    | none => simp [bmPre, q] at hp
    | some o1 =>
      cases o1 with
      | dic kvs => simp [bmPre, q] at hp
      | ins c fs => simp [bmPre, q] at hp
      | lst xs =>
        obtain ⟨a, vs, rfl, hm, hl, rs⟩ := r1.lst q rx
        refine ⟨.inl ⟨rfl, vs, SqL.of hl⟩, ρ1, fr, h1, F.ext e1, r1, ?_⟩
        refine (Post.bind p1).imp fun ws h2 ρ2 H2 e2 r2 p2 wvs rws => ?_
        match ws, rws, p2 with
        | [], _, p2 => exact p2.elim
        | _ :: _ :: _, _, p2 => exact p2.elim
        | [v], rws, p2 =>
          obtain ⟨vv, rfl, rv⟩ := rws.one_of
          have p3 : Post Z W ρ2 H2 σ (match h2.get m with | some (.lst xs) => if xs.length < lineN then G.R.ok .non (h2.set m (.lst (xs ++ [v]))) else G.R.no | _ => G.R.no) (fun v _ ρ' H' => ∀ vv, RV Z ρ' H' v vv → Q vv H') := p2
          cases q2 : h2.get m with
          | none => rw [q2] at p3; exact p3.elim
          | some o2 =>
            rw [q2] at p3
            cases o2 with
            | dic kvs => exact p3.elim
            | ins c fs => exact p3.elim
            | lst ys =>
              dsimp only at p3
              by_cases hz : ys.length < lineN
              · rw [if_pos hz] at p3
                have rx2 : RV Z ρ2 H2 (.ref m) (.ref a) := rx.ext e2
                obtain ⟨a2, vs2, ha2, hm2, hl2, rs2⟩ := r2.lst q2 rx2
                cases ha2
                refine ⟨a, vs2, vv, rfl, rfl, hl2, by rw [← rs2.length, ← line_eq]; exact hz, ?_⟩
                have ex0 : Ext ρ2 H2 ρ2 (upd H2 a (.lst (vs2 ++ [vv]))) := r2.setExt (u := .lst (vs2 ++ [vv])) q2 hm2
                obtain ⟨hr, ex⟩ := r2.set (o' := .lst (ys ++ [v])) (u := .lst (vs2 ++ [vv])) q2 hm2 ⟨_, upd_same, (rs2.ext ex0).append (RVs.one (rv.ext ex0))⟩
                exact p3 ρ2 _ ex hr _ RV.mkNon
              · rw [if_neg hz] at p3
                exact p3.elim
  · rw [if_neg hp] at p1
    exact p1.elim
theorem RVs_strs : ∀ {ps : List (List Nat)}, ps.all okS = true → RVs Z ρ H (ps.map MV.str) ((ps.map S8).map V.str)
  | [], _ => by simp only [List.map_nil, RVs]
  | p :: ps, hk => by
    simp only [List.all_cons, Bool.and_eq_true] at hk
    simp only [List.map_cons, RVs]
    exact ⟨_, _, rfl, RV.mkStr hk.1, RVs_strs hk.2⟩
theorem s_split {z : Bool} {o : Expr} {mo : E} {s c : List Nat} {ps : List (List Nat)} {apos p2 : Pos} {j : Nat} {cs : PySem.Str} (ho : PE X o (tE Z W D mo)) (hcs : cs = S8 c) (hc : c ≠ []) (hl : s.length + 2 ≤ lineN) (hk : ps.all okS = true) (hsp : Txt.split (S8 s) (S8 c) = ps.map S8)
    (hbase : attributeBase o "split" X.env (eval o X.env) = eval o X.env) (hline : (apos.endLine == pos.line) = true) : PE X (.Call (.Attribute o "split" apos) [.Constant (.str cs) j p2] [] pos) (tE Z W D (.split z mo s c ps)) := by
  subst hcs
  refine PEw (pe_split ho pe_str rfl hbase hline) fun σ H Q ⟨ρ, fr, h, F, R, P⟩ => ⟨ρ, fr, h, F, R, ?_⟩
  refine (Post.bind P).imp fun x h1 ρ1 H1 e1 r1 p1 xx rx => ?_
  cases x <;> try exact False.elim p1
  rename_i t
  obtain ⟨rfl, kt⟩ := rx.str
  have p2 : Post Z W ρ1 H1 σ (if t = s then newL z (ps.map .str) h1 else G.R.no) (fun v _ ρ' H' => ∀ vv, RV Z ρ' H' v vv → Q vv H') := p1
  by_cases ht : t = s
  · rw [if_pos ht] at p2
    subst ht
    refine ⟨⟨_, rfl⟩, S8 t, S8 c, rfl, rfl, ?_, by rw [S8_len, ← line_eq]; exact hl, ?_⟩
    · rw [S8_len]
      cases c with
      | nil => exact absurd rfl hc
      | cons _ _ => rfl
    · rw [hsp]
      exact (post_newL r1 (RVs_strs hk) p2).2
  · rw [if_neg ht] at p2
    exact p2.elim
end
end G
set_option Elab.async false
set_option linter.all false
set_option maxRecDepth 100000
set_option maxHeartbeats 4000000
/-! What a text's shape gives. -/
namespace G
open PySem PySem.Spec PyProof.Rows L2
def plainT : Expr → Bool
  | .UnaryOp .Not _ _ => false
  | .BoolOp _ _ _ => false
  | .IfExp _ _ _ _ => false
  | .Compare _ _ _ _ => false
  | _ => true
def isBool : Expr → Bool
  | .BoolOp _ _ _ => true
  | _ => false
def notStar : Expr → Bool
  | .Starred _ _ => false
  | _ => true
def plainB : Expr → Bool
  | .Call _ [] _ _ => false
  | _ => true
def plainI : Expr → Bool
  | .Slice _ _ _ _ => false
  | _ => true
def noComp : Expr → Bool
  | .ListComp _ _ _ _ => false
  | .SetComp _ _ _ _ => false
  | .DictComp _ _ _ _ _ => false
  | _ => true
def noSet : Expr → Bool
  | .Set _ _ _ => false
  | _ => true
theorem plainT_ok {e : Expr} {env : Env} (h : plainT e = true) (whole : Sem Value) : isTrue e env whole = (do let v ← whole; standAt e.pos; holding [v] (truthy v)) := by
  cases e <;> first | rfl | (simp [plainT] at h; done) | skip
  case UnaryOp o x p => cases o <;> first | rfl | (simp [plainT] at h; done)
theorem star1 {e : Expr} {es : List Expr} {env : Env} (h : notStar e = true) : starEach (e :: es) env = (false, eval e env) :: starEach es env := by
  cases e <;> first | rfl | (simp [notStar] at h; done)
theorem stars {env : Env} {pos : Pos} : ∀ {es : List Expr}, es.all notStar = true → (backTo pos (starEach es env)).any (·.1) = false
  | [], _ => rfl
  | e :: es, h => by
    simp only [List.all_cons, Bool.and_eq_true] at h
    rw [star1 h.1]
    show (false || (backTo pos (starEach es env)).any (·.1)) = false
    rw [stars h.2]
    rfl
theorem plainB_ok {o : Expr} {f : PySem.Str} {env : Env} (h : plainB o = true) : attributeBase o f env (eval o env) = eval o env := by
  cases o <;> first | rfl | skip
  case Call g as kws p =>
    cases as with
    | nil => exact absurd h (by simp [plainB])
    | cons a as => cases g <;> rfl
theorem plainI_ok {b : Expr} (h : plainI b = true) : PlainIx b := fun o i => by cases b <;> first | rfl | (simp [plainI] at h; done)
theorem noComp_ok {e : Expr} {t : Option Expr} {l : Nat} {env : Env} (h : noComp e = true) : swapsWith e t l env = pure false := by
  cases e <;> first | rfl | (simp [noComp] at h; done)
theorem noSet_ok {e : Expr} {env : Env} (h : noSet e = true) (x : Value) : foldedSetIterable e env x = pure x := by
  cases e <;> first | rfl | (simp [noSet] at h; done)
theorem asg1 {e : Expr} {es : List Expr} {env : Env} (h : notStar e = true) : (assignEach (e :: es) env).map (·.2) = assign e env :: (assignEach es env).map (·.2) := by
  cases e <;> first | rfl | (simp [notStar] at h; done)
theorem asgStar {env : Env} : ∀ {es : List Expr}, es.all notStar = true → (assignEach es env).findIdx? (·.1) = none
  | [], _ => rfl
  | e :: es, h => by
    simp only [List.all_cons, Bool.and_eq_true] at h
    have ih := asgStar (env := env) h.2
    have : assignEach (e :: es) env = (false, assign e env) :: assignEach es env := by
      cases e <;> first | rfl | (have h1 := h.1; simp [notStar] at h1; done)
    rw [this, List.findIdx?_cons]
    simp [ih]
theorem asgSub {o i : Expr} {pos : Pos} {env : Env} (h : plainI i = true) (v : Value) : assign (.Subscript o i pos) env v = (do
      let ov ← holding [v] (eval o env)
      let iv ← holding [v, ov] (eval i env)
      standAt pos
      holding [v, ov, iv] (setItem ov iv v)
      release [v, ov, iv] []) := by
  cases i <;> first | rfl | (simp [plainI] at h; done)
/-- swappedStores, told ahead: none: not known here -/
def isStar : Expr → Bool
  | .Starred _ _ => true
  | _ => false
def locN (sc : Scope) (line : Nat) : Expr → Option PySem.Str
  | .Name id pos => if sc.names.lookup id == some .local && pos.line == line then some id else none
  | _ => none
def swB (sc : Scope) (ts vs : List Expr) : Option (Option (List PySem.Str)) :=
  if !(ts.length == 2 || ts.length == 3) || vs.length != ts.length then some none
  else if vs.any isStar then some none
  else if (ts.filterMap (locN sc ((ts.head?.map (·.pos.line)).getD 0))).length != ts.length || (ts.filterMap (locN sc ((ts.head?.map (·.pos.line)).getD 0))).eraseDups.length != (ts.filterMap (locN sc ((ts.head?.map (·.pos.line)).getD 0))).length then some none
  else if vs.all (foldedForSure 8) then some none
  else if vs.all (constantsAlone 8) then none
  else some (some (ts.filterMap (locN sc ((ts.head?.map (·.pos.line)).getD 0))))
theorem swB_ok {env : Env} {ts vs : List Expr} {k k2 : Nat} {p p2 : Pos} {r : Option (List PySem.Str)} (hk : env.scope.kind = .function) (h : swB env.scope ts vs = some r) : swappedStores [.Tuple ts k p] (.Tuple vs k2 p2) env = pure r := by
  have hb : (env.blockKind != .function) = false := by
    unfold Env.blockKind
    rw [hk]
    rfl
  unfold swappedStores
  unfold swB at h
  simp only [hb, Bool.or_false]
  by_cases c1 : (!(ts.length == 2 || ts.length == 3) || vs.length != ts.length) = true
  · rw [if_pos c1] at h
    simp only [c1, if_true]
    rw [← Option.some.inj h]
  · rw [if_neg c1] at h
    simp only [c1]
    rw [if_neg Bool.false_ne_true]
    show (if vs.any isStar = true then (pure none : Sem (Option (List PySem.Str))) else if ((ts.filterMap (locN env.scope ((ts.head?.map (·.pos.line)).getD 0))).length != ts.length || (ts.filterMap (locN env.scope ((ts.head?.map (·.pos.line)).getD 0))).eraseDups.length != (ts.filterMap (locN env.scope ((ts.head?.map (·.pos.line)).getD 0))).length) = true then pure none else if vs.all (foldedForSure 8) = true then pure none else
      if vs.all (constantsAlone 8) = true then (do unsupported "assign.tuple-of-constant-expressions:order-of-the-stores"; pure (some (ts.filterMap (locN env.scope ((ts.head?.map (·.pos.line)).getD 0))))) else pure (some (ts.filterMap (locN env.scope ((ts.head?.map (·.pos.line)).getD 0))))) = pure r
    by_cases c2 : vs.any isStar = true
    · rw [if_pos c2] at h ⊢
      rw [← Option.some.inj h]
    · rw [if_neg c2] at h ⊢
      split
      · rename_i c3
        rw [if_pos c3] at h
        rw [← Option.some.inj h]
      · rename_i c3
        rw [if_neg c3] at h
        by_cases c4 : vs.all (foldedForSure 8) = true
        · rw [if_pos c4] at h ⊢
          rw [← Option.some.inj h]
        · rw [if_neg c4] at h ⊢
          by_cases c5 : vs.all (constantsAlone 8) = true
          · rw [if_pos c5] at h
            cases h
          · rw [if_neg c5] at h ⊢
            rw [← Option.some.inj h]
theorem swN_ok {env : Env} {tg e : Expr} (h : (match tg, e with | .Tuple _ _ _, .Tuple _ _ _ => false | .List _ _, .Tuple _ _ _ => false | _, _ => true) = true) : swappedStores [tg] e env = pure none := by
  cases tg <;> first | rfl | skip
  all_goals cases e <;> first | rfl | (simp at h; done)
section
variable {Z : Stat} {W : WX} {D : Ds} {X : Cx} {pos : Pos} {ρ ρ' : Rho} {H H' : Hp} {σ : L2.St} {h : MHp}
theorem s_iteB {c a b : Expr} {mc ma mb : E} (hc : PT X c (tTst Z W D mc)) (ha : PT X a (tTst Z W D ma)) (hb : PT X b (tTst Z W D mb)) : PT X (.IfExp c a b pos) (tTst Z W D (.ite mc ma mb)) := by
  refine ⟨fun pins s σ H Q I q => ?_⟩
  show wpAny _ _ (do if ← isTrue c X.env (eval c X.env) then isTrue a X.env (eval a X.env) else isTrue b X.env (eval b X.env)) _ _ _
  obtain ⟨ρ, fr, h, F, R, P⟩ := q
  refine wpAny_bind (thn (hc.run pins s σ H (fun t H1 => if t = true then tTst Z W D ma σ H1 Q else tTst Z W D mb σ H1 Q) I ⟨ρ, fr, h, F, R, ?_⟩) fun t s1 ⟨H1, I1, q1⟩ => ?_)
  · unfold evTest evE at P
    refine tst_bind P (fun v h1 b e ρ1 H1 e1 r1 p => ?_) fun v h1 e => by rw [e]
    rw [e] at p
    cases b with
    | true => exact ⟨ρ1, fr, h1, F.ext e1, r1, p⟩
    | false => exact ⟨ρ1, fr, h1, F.ext e1, r1, p⟩
  · cases t with
    | true => exact ha.run pins s1 σ H1 Q I1 q1
    | false => exact hb.run pins s1 σ H1 Q I1 q1
end
end G
set_option Elab.async false
set_option linter.all false
set_option maxRecDepth 100000
set_option maxHeartbeats 4000000
/-! Our syntax against the text's: a check that is run, and what it gives. -/
namespace G
open PySem PySem.Spec PyProof.Rows L2
/-- names: of defs; of errors' classes with their parameter; of fields -/
structure CT where
  fns : List PySem.Str
  ens : List (PySem.Str × PySem.Str)
  fnm : List PySem.Str
/-- the slots, the names' kinds, and as the block's own text has them -/
structure CC where
  N : List PySem.Str
  sc : Scope
  os : Scope
def visB (sc : Scope) (x : PySem.Str) : Bool := match sc.names.lookup x with
  | some .local => true
  | some .cell => true
  | some .free => true
  | _ => false
def locB (c : CC) (x : PySem.Str) : Bool := match c.sc.names.lookup x with
  | some .local => true
  | some .cell => (match c.os.names.lookup x with
    | some .cell => true
    | _ => false)
  | _ => false
def localB (sc : Scope) (x : PySem.Str) : Bool := match sc.names.lookup x with
  | some .local => true
  | _ => false
def glB (sc : Scope) (x : PySem.Str) : Bool := match sc.names.lookup x with
  | some .globalImplicit => true
  | _ => false
def notDbg (x : PySem.Str) : Bool := !(x == ("__debug__" : PySem.Str)) && !(x == ("__classdict__" : PySem.Str))
def at_ (N : List PySem.Str) (i : Nat) (x : PySem.Str) : Bool := decide (N[i]? = some x)
def boB : Bo → Operator → Bool
  | .add, .Add => true
  | .sub, .Sub => true
  | .mul, .Mult => true
  | .fdiv, .FloorDiv => true
  | .mod, .Mod => true
  | .pow, .Pow => true
  | _, _ => false
def bltNames : List PySem.Str := ["isinstance", "len", "list", "int", "all", "any", "range", "zip", "str", "bool", "tuple", "dict", "ValueError", "LookupError", "IndexError"]
def okTy (T : CT) (sc : Scope) (t : Ty) (e : Expr) : Bool := match e with
  | .Name x _ => glB sc x && notDbg x && (match t with
    | .cls c => match T.ens[c]? with
      | some (y, _) => decide (x = y)
      | none => false
    | t => decide (x = PySem.Str.ofString (tyS t)))
  | _ => false
def okTys (T : CT) (sc : Scope) : List Ty → List Expr → Bool
  | [], [] => true
  | t :: ts, e :: es => okTy T sc t e && okTys T sc ts es
  | _, _ => false
def owOf (N : List PySem.Str) (own : List Nat) : List (PySem.Str × Nat) := own.map fun i => ((N[i]?).getD "", i)
variable (T : CT)
mutual
def okE : CC → E → Expr → Bool
  | c, .var i, e => match e with
    | .Name x _ => at_ c.N i x && visB c.sc x && notDbg x
    | _ => false
  | c, .frz i, e => match e with
    | .Name x _ => at_ c.N i x && visB c.sc x && notDbg x
    | _ => false
  | c, .lit v, e => match e with
    | .Constant (.int i) _ _ => match v with
      | .int j => decide (i = j)
      | _ => false
    | .Constant (.bool b) _ _ => match v with
      | .bl d => b == d
      | _ => false
    | .Constant .none _ _ => match v with
      | .non => true
      | _ => false
    | .Constant (.str x) _ _ => match v with
      | .str s => okS s && decide (x = S8 s)
      | _ => false
    | _ => false
  | c, .tup es, e => match e with
    | .Tuple xs _ _ => okEs c es xs
    | _ => false
  | c, .lst _ es, e => match e with
    | .List xs _ => okEs c es xs
    | _ => false
  | c, .bin _ op a b, e => match e with
    | .BinOp l o r _ => boB op o && okE c a l && okE c b r
    | _ => false
  | c, .cmp op a b, e => match e with
    | .Compare l [o] [r] _ => decide (o = coOf op) && !behindInMarks (coOf op) r && okE c a l && okE c b r
    | _ => false
  | c, .chain o1 o2 a b d, e => match e with
    | .Compare l [p1, p2] [r, q] _ => decide (p1 = coOf o1) && decide (p2 = coOf o2) && !lastMarks [coOf o1, coOf o2] [r, q] && okE c a l && okE c b r && okE c d q
    | _ => false
  | c, .neg a, e => match e with
    | .UnaryOp .USub x _ => okE c a x
    | _ => false
  | c, .not a, e => match e with
    | .UnaryOp .Not x _ => okE c a x
    | _ => false
  | c, .and a b, e => match e with
    | .BoolOp .And (x :: y :: r) pos => okE c a x && (match r with
      | [] => okE c b y
      | _ => okE c b (.BoolOp .And (y :: r) pos))
    | _ => false
  | c, .or a b, e => match e with
    | .BoolOp .Or (x :: y :: r) pos => okE c a x && (match r with
      | [] => okE c b y
      | _ => okE c b (.BoolOp .Or (y :: r) pos))
    | _ => false
  | c, .ite t a b, e => match e with
    | .IfExp x y z _ => okE c t x && okE c a y && okE c b z
    | _ => false
  | c, .idx a i, e => match e with
    | .Subscript x y _ => plainI y && okE c a x && okE c i y
    | _ => false
  | c, .slice _ a lo hi, e => match e with
    | .Subscript x (.Slice l h none _) _ => okE c a x && okO c lo l && okO c hi h
    | _ => false
  | c, .rev _ a, e => match e with
    | .Subscript x (.Slice none none (some (.UnaryOp .USub (.Constant (.int 1) _ _) _)) _) _ => okE c a x
    | _ => false
  | c, .fld a f, e => match e with
    | .Attribute x n _ => at_ T.fnm f n && plainB x && okE c a x
    | _ => false
  | c, .call f es, e => match e with
    | .Call (.Name x _) (y :: ys) [] _ => at_ T.fns f x && glB c.sc x && notDbg x && notStar y && ys.all notStar && okEs c es (y :: ys)
    | _ => false
  | c, .mkexc k es, e => match e with
    | .Call (.Name x _) args kws _ => glB c.sc x && notDbg x && (match T.ens[k]? with
      | some (y, pn) => decide (x = y) && (match args, kws with
        | [], [] => match es with
          | .nil => true
          | _ => false
        | y :: ys, [] => notStar y && ys.all notStar && okEs c es (y :: ys)
        | [], [⟨some q, z, _⟩] => decide (q = pn) && (match es with
          | .cons m .nil => okE c m z
          | _ => false)
        | _, _ => false)
      | none => false)
    | _ => false
  | c, .isin a ts, e => match e with
    | .Call (.Name x _) [y, z] [] _ => decide (x = "isinstance") && glB c.sc x && notStar y && notStar z && okE c a y && (match ts with
      | [t] => okTy T c.sc t z
      | ts => match z with
        | .Tuple zs _ _ => okTys T c.sc ts zs && zs.all notStar && !ts.isEmpty && decide (ts.length ≤ 100)
        | _ => false)
    | _ => false
  | c, .bi _ b es, e => match e with
    | .Call (.Name x _) (y :: ys) [] _ => decide (biName b = some x) && glB c.sc x && notStar y && ys.all notStar && okEs c es (y :: ys)
    | _ => false
  | c, .bm b o es, e => match e with
    | .Call (.Attribute x n ap) [y] [] p => (match b with | .append => true | _ => false) && decide (n = "append") && (ap.endLine == p.line) && plainB x && notStar y && okE c o x && okEs c es [y]
    | _ => false
  | c, .split _ o s t ps, e => match e with
    | .Call (.Attribute x n ap) [.Constant (.str cs) _ _] [] p => decide (n = "split") && (ap.endLine == p.line) && plainB x && decide (cs = S8 t) && !t.isEmpty && decide (s.length + 2 ≤ lineN) && ps.all okS && decide (Txt.split (S8 s) (S8 t) = ps.map S8) && okE c o x
    | _ => false
  | c, .lc _ m tg it cd own, e => match e with
    | .ListComp elt [⟨xt, iter, ifs, 0⟩] scope _ => blkC c.N c.sc scope (owOf c.N own) && noSet iter && okI c it xt iter && okTo ⟨c.N, relS scope c.sc, scope⟩ own tg xt && okE ⟨c.N, relS scope c.sc, scope⟩ m elt && (match ifs with
      | [] => match cd with
        | .none => true
        | _ => false
      | [x] => match cd with
        | .some q => okE ⟨c.N, relS scope c.sc, scope⟩ q x
        | _ => false
      | _ => false)
    | _ => false
  | _, .gv _ _, _ => false
  | _, .nope, _ => true
def okEs : CC → Es → List Expr → Bool
  | _, .nil, es => match es with
    | [] => true
    | _ => false
  | c, .cons m r, es => match es with
    | e :: es => notStar e && okE c m e && okEs c r es
    | [] => false
  | _, .star _ _, _ => false
def okO : CC → Eo → Option Expr → Bool
  | _, .none, e => match e with
    | none => true
    | _ => false
  | c, .some m, e => match e with
    | some e => okE c m e
    | none => false
def okI : CC → It → Expr → Expr → Bool
  | c, .val m, _, e => okE c m e
  | c, .range1 m, _, e => match e with
    | .Call (.Name x _) [y] [] _ => decide (x = "range") && glB c.sc x && notStar y && okE c m y
    | _ => false
  | c, .range2 m m2, _, e => match e with
    | .Call (.Name x _) [y, z] [] _ => decide (x = "range") && glB c.sc x && notStar y && notStar z && okE c m y && okE c m2 z
    | _ => false
  | c, .zip m m2, t, e => match e with
    | .Call (.Name x _) [y, z] [] _ => decide (x = "zip") && glB c.sc x && notStar y && notStar z && okE c m y && okE c m2 z && (match t with | .Tuple _ _ _ => true | _ => false)
    | _ => false
  | _, .enum _, _, _ => false
def okT : CC → Tg → Expr → Bool
  | c, .v i, e => match e with
    | .Name x _ => at_ c.N i x && locB c x
    | _ => false
  | c, .tup ts, e => match e with
    | .Tuple es _ _ => okTs c ts es && es.all notStar
    | _ => false
  | c, .sub o i, e => match e with
    | .Subscript x y _ => plainI y && okE c o x && okE c i y
    | _ => false
  | _, .at _ _, _ => false
def okTs : CC → Tgs → List Expr → Bool
  | _, .nil, es => match es with
    | [] => true
    | _ => false
  | c, .cons t r, es => match es with
    | e :: es => okT c t e && okTs c r es
    | [] => false
/-- a comprehension's target: its own names -/
def okTo : CC → List Nat → Tg → Expr → Bool
  | c, own, .v i, e => match e with
    | .Name x _ => at_ c.N i x && locB c x && own.contains i
    | _ => false
  | c, own, .tup ts, e => match e with
    | .Tuple es _ _ => okTso c own ts es && es.all notStar
    | _ => false
  | _, _, _, _ => false
def okTso : CC → List Nat → Tgs → List Expr → Bool
  | _, _, .nil, es => match es with
    | [] => true
    | _ => false
  | c, own, .cons t r, es => match es with
    | e :: es => okTo c own t e && okTso c own r es
    | [] => false
end
/-- name = [..] on one line -/
def swapLc (sc : Scope) (x : PySem.Str) (px : Pos) (e : Expr) : Bool := match e with
  | .ListComp _ _ scope pos => localB sc x && px.line == pos.line && !(scope.names.any fun (n, k) => n == x && (k == .local || k == .cell))
  | _ => false
def isLc : Expr → Bool
  | .ListComp _ _ _ _ => true
  | _ => false
def okPar (sc : Scope) (N : List PySem.Str) (is : List Nat) (xs : List PySem.Str) : Bool := match is, xs with
  | [i, j], [x, y] => at_ N i x && at_ N j y && i != j && localB sc x && localB sc y
  | [i, j, k], [x, y, z] => at_ N i x && at_ N j y && at_ N k z && i != j && i != k && j != k && localB sc x && localB sc y && localB sc z
  | _, _ => false
def nms : List Expr → Option (List PySem.Str)
  | [] => some []
  | .Name x _ :: r => (nms r).map (x :: ·)
  | _ => none
def okAsg (c : CC) (t : Tg) (m : E) (tg e : Expr) : Bool := match tg with
  | .Name x px => (match t with | .v i => at_ c.N i x && locB c x | _ => false) && okE T c m e && (swapLc c.sc x px e || noComp e)
  | .Tuple ts _ _ => match e with
    | .Tuple vs _ _ => match swB c.sc ts vs with
      | some none => okT T c t tg && okE T c m e
      | some (some xs) => decide (nms ts = some xs) && (match m with
        | .tup ms => okEs T c ms vs && (match t with
          | .tup (.cons (.v i) (.cons (.v j) .nil)) => okPar c.sc c.N [i, j] xs && decide (vs.length = 2)
          | .tup (.cons (.v i) (.cons (.v j) (.cons (.v k) .nil))) => okPar c.sc c.N [i, j, k] xs && decide (vs.length = 3)
          | _ => false)
        | _ => false)
      | none => false
    | e => noComp e && okT T c t tg && okE T c m e
  | .Subscript _ _ _ => noComp e && okT T c t tg && okE T c m e
  | _ => false
mutual
def okSt : CC → S → Stmt → Bool
  | c, .expr m, s => match s with
    | .Expr e _ => noComp e && okE T c m e
    | _ => false
  | c, .asg t m, s => match s with
    | .Assign [tg] e _ => okAsg T c t m tg e
    | _ => false
  | c, .ite t a b, s => match s with
    | .If x y z _ => okE T c t x && okSs c a y && okSs c b z
    | _ => false
  | c, .for_ t it b, s => match s with
    | .For tg iter body [] _ => noSet iter && okI T c it tg iter && okT T c t tg && okSs c b body
    | _ => false
  | c, .while_ t b, s => match s with
    | .While x body [] _ => okE T c t x && okSs c b body
    | _ => false
  | c, .ret m, s => match s with
    | .Return (some e) _ => match m with
      | .some m => okE T c m e
      | .none => false
    | .Return none _ => match m with
      | .none => true
      | _ => false
    | _ => false
  | _, .pass, s => match s with
    | .Pass _ => true
    | _ => false
  | _, .brk, s => match s with
    | .Break _ => true
    | _ => false
  | _, .cont, s => match s with
    | .Continue _ => true
    | _ => false
  | _, .aug _ _ _, _ => false
  | _, .nope, _ => true
def okSs : CC → Ss → List Stmt → Bool
  | _, .nil, ss => match ss with
    | [] => true
    | _ => false
  | c, .cons m r, ss => match ss with
    | s :: ss => okSt c m s && okSs c r ss
    | [] => false
end
end G
set_option Elab.async false
set_option linter.all false
set_option maxRecDepth 100000
set_option maxHeartbeats 4000000
/-! The check is sound. -/
namespace G
open PySem PySem.Spec PyProof.Rows L2
structure OkX (Z : Stat) (T : CT) (D : Ds) (W : WX) (c : CC) (X : Cx) : Prop where
  K : X.K = Z.K
  hN : X.N = c.N
  nd : X.N.Nodup
  sc : X.env.scope = c.sc
  kd : c.sc.kind = .function
  hu : X.A.units + 65 < cLine
  calm : X.calm = true
  fn : ∀ x, c.os.names.lookup x = some .cell → X.fn x = true
  tk : Takes X W
  room2 : Room 2 X.A
  blt : ∀ x ∈ bltNames, X.mg x = none
  call : ∀ f x, T.fns[f]? = some x → ∃ (k n : Nat) (fa : Addr) (fd : FuncData) (ps : List PySem.Str), Room k X.A ∧ FnOk X.prog X.w X.K X.mg X.base (L2.CX X.prog X.w) k fa fd ps (spC Z n (D.call f)) ∧ X.mg x = some (.ref fa) ∧ PySem.W.keepIn X.K (.ref fa) = true ∧ Binds X.K fd ps [] ∧ ∀ vs h, vs.length ≠ n → D.call f vs h = .no
  err : ∀ k x pn, T.ens[k]? = some (x, pn) → ErrC Z D X k x pn
  fld : FldC Z D X
  fnm : ∀ f x, T.fnm[f]? = some x → x = Z.fn f
  isc : IsC Z D X
section
variable {Z : Stat} {T : CT} {W : WX} {D : Ds} {X : Cx} {c : CC}
theorem OkX.blk (O : OkX Z T D W c X) {scope : Scope} (hk : scope.kind = .function) (s : Shared) (H : Hp) (C : Addr) (cl : List (PySem.Str × Addr)) (fp : List Addr) : OkX Z T D W0 ⟨c.N, relS scope c.sc, scope⟩ (X.blk s H scope (compEnvC scope cl C X.env) fp) :=
  ⟨O.K, O.hN, O.nd, (by show relS scope X.env.scope = relS scope c.sc; rw [O.sc]), hk, O.hu, O.calm, fun x e => (by show (scope.names.lookup x == some .cell) = true; rw [show scope.names.lookup x = some .cell from e]; rfl), fun u s' ⟨_, _, _, _, _, _, _, _, _, _, _, _, _, _, _, _, w⟩ => w.elim, O.room2, O.blt, O.call,
    O.err, O.fld, O.fnm, O.isc⟩
theorem OkX.vis (O : OkX Z T D W c X) {x : PySem.Str} (h : visB c.sc x = true) : Vis X.env.scope x := by
  rw [O.sc]
  unfold visB at h
  unfold Vis
  cases q : c.sc.names.lookup x with
  | none => rw [q] at h; cases h
  | some k => rw [q] at h; cases k <;> first | exact .inl rfl | exact .inr (.inl rfl) | exact .inr (.inr rfl) | cases h
theorem OkX.loc (O : OkX Z T D W c X) {x : PySem.Str} (h : locB c x = true) : L2.Loc X.env.scope x ∧ (X.fn x = true ∨ X.env.scope.names.lookup x = some .local) := by
  have hf := O.fn x
  rw [O.sc]
  unfold locB at h
  unfold L2.Loc
  cases q : c.sc.names.lookup x with
  | none => rw [q] at h; cases h
  | some k =>
    rw [q] at h
    cases k with
    | «local» => exact ⟨.inl rfl, .inr rfl⟩
    | cell =>
      dsimp only at h
      cases q2 : c.os.names.lookup x with
      | none => rw [q2] at h; cases h
      | some k =>
        rw [q2] at h
        cases k <;> first | exact ⟨.inr rfl, .inl (hf q2)⟩ | cases h
    | _ => cases h
theorem OkX.loc1 (O : OkX Z T D W c X) {x : PySem.Str} (h : localB c.sc x = true) : X.env.scope.names.lookup x = some .local := by
  rw [O.sc]
  unfold localB at h
  cases q : c.sc.names.lookup x with
  | none => rw [q] at h; cases h
  | some k => rw [q] at h; cases k <;> first | rfl | cases h
theorem OkX.gl (O : OkX Z T D W c X) {x : PySem.Str} (h : glB c.sc x = true) : Gl X x := by
  unfold Gl
  show X.env.scope.names.lookup x = _
  rw [O.sc]
  unfold glB at h
  cases q : c.sc.names.lookup x with
  | none => rw [q] at h; cases h
  | some k => rw [q] at h; cases k <;> first | rfl | cases h
theorem OkX.ix (O : OkX Z T D W c X) {i : Nat} {x : PySem.Str} (h : at_ c.N i x = true) : X.N[i]? = some x := by rw [O.hN]; exact of_decide_eq_true h
theorem dbg {x : PySem.Str} (h : notDbg x = true) : (x == ("__debug__" : PySem.Str)) = false ∧ (x == ("__classdict__" : PySem.Str)) = false := by
  unfold notDbg at h
  simp only [Bool.and_eq_true, Bool.not_eq_true'] at h
  exact h
/-- an expression: its value, its test, its test whatever its whole is -/
def R3 (Z : Stat) (W : WX) (D : Ds) (X : Cx) (m : E) (e : Expr) : Prop := PE X e (tE Z W D m) ∧ PT X e (tTst Z W D m) ∧ (isBool e = true → PW X e (tTst Z W D m))
theorem r3 (O : OkX Z T D W c X) {m : E} {e : Expr} (h : PE X e (tE Z W D m)) (hp : plainT e = true) (hb : isBool e = false) : R3 Z W D X m e := ⟨h, s_tst O.K h fun w => plainT_ok hp w, fun z => by rw [hb] at z; cases z⟩
theorem r3b {m : E} {e : Expr} (h : PE X e (tE Z W D m)) (ht : PT X e (tTst Z W D m)) (hb : isBool e = false) : R3 Z W D X m e := ⟨h, ht, fun z => by rw [hb] at z; cases z⟩
theorem bo_ok (O : OkX Z T D W c X) {z : Bool} {op : Bo} {o : Operator} {a b : Expr} {ma mb : E} {pos : Pos} (h : boB op o = true) (ha : PE X a (tE Z W D ma)) (hb : PE X b (tE Z W D mb)) : PE X (.BinOp a o b pos) (tE Z W D (.bin z op ma mb)) := by
  cases op <;> cases o <;> first | (simp [boB] at h; done) | skip
  · exact s_add O.K ha hb
  · exact s_sub ha hb
  · exact s_mul ha hb
  · exact s_fdiv ha hb
  · exact s_mod ha hb
  · exact s_pow ha hb
theorem ty_ok (O : OkX Z T D W c X) {t : Ty} {e : Expr} (h : okTy T c.sc t e = true) : PE X e (tC (tyVal Z t)) := by
  cases e <;> try (simp [okTy] at h; done)
  rename_i x p
  simp only [okTy, Bool.and_eq_true] at h
  obtain ⟨⟨h1, h2⟩, h3⟩ := h
  cases t with
  | cls k =>
    cases q : T.ens[k]? with
    | none => simp [q] at h3
    | some y =>
      simp only [q] at h3
      have hx := of_decide_eq_true h3
      obtain ⟨y1, y2⟩ := y
      exact ty_own (O.gl h1) (by rw [hx]; exact (O.err k y1 y2 q).mg) (dbg h2).1
  | bt n =>
    have hx := of_decide_eq_true h3
    refine ty_bltn (by intro c z; cases z) hx (O.gl h1) (O.blt x ?_)
    rw [hx]
    match n with
    | 0 => decide
    | 1 => decide
    | n + 2 => show PySem.Str.ofString "IndexError" ∈ bltNames; decide
  | int => have hx := of_decide_eq_true h3; exact ty_bltn (by intro c z; cases z) hx (O.gl h1) (O.blt x (by rw [hx]; decide))
  | str => have hx := of_decide_eq_true h3; exact ty_bltn (by intro c z; cases z) hx (O.gl h1) (O.blt x (by rw [hx]; decide))
  | bool => have hx := of_decide_eq_true h3; exact ty_bltn (by intro c z; cases z) hx (O.gl h1) (O.blt x (by rw [hx]; decide))
  | tup => have hx := of_decide_eq_true h3; exact ty_bltn (by intro c z; cases z) hx (O.gl h1) (O.blt x (by rw [hx]; decide))
  | lst => have hx := of_decide_eq_true h3; exact ty_bltn (by intro c z; cases z) hx (O.gl h1) (O.blt x (by rw [hx]; decide))
  | dic => have hx := of_decide_eq_true h3; exact ty_bltn (by intro c z; cases z) hx (O.gl h1) (O.blt x (by rw [hx]; decide))
theorem tys_ok (O : OkX Z T D W c X) : ∀ {ts : List Ty} {es : List Expr}, okTys T c.sc ts es = true → es.all notStar = true → PA X es (fun _ H Q => Q (ts.map (tyVal Z)) H)
  | [], [], _, _ => pa_nil
  | t :: ts, e :: es, h, hs => by
    simp only [okTys, Bool.and_eq_true] at h
    simp only [List.all_cons, Bool.and_eq_true] at hs
    exact PAw (pa_cons (ty_ok O h.1) (tys_ok O h.2 hs.2) (star1 hs.1)) fun σ H Q q => q
  | [], _ :: _, h, _ => by simp [okTys] at h
  | _ :: _, [], h, _ => by simp [okTys] at h
theorem ow_map (N : List PySem.Str) (own : List Nat) : (owOf N own).map (·.2) = own := by
  unfold owOf
  rw [List.map_map]
  exact List.map_id' own
theorem okEs_stars : ∀ {ms : Es} {es : List Expr}, okEs T c ms es = true → es.all notStar = true
  | .nil, [], _ => rfl
  | .nil, _ :: _, h => by simp [okEs] at h
  | .cons m r, [], h => by simp [okEs] at h
  | .cons m r, e :: es, h => by
    simp only [okEs, Bool.and_eq_true] at h
    simp only [List.all_cons, h.1.1, okEs_stars h.2, Bool.and_self]
  | .star _ _, _, h => by simp [okEs] at h
theorem okTs_len : ∀ {ts : Tgs} {es : List Expr}, okTs T c ts es = true → es.length = tgsN ts
  | .nil, [], _ => rfl
  | .nil, _ :: _, h => by simp [okTs] at h
  | .cons m r, [], h => by simp [okTs] at h
  | .cons m r, e :: es, h => by
    simp only [okTs, Bool.and_eq_true] at h
    simp only [List.length_cons, tgsN, okTs_len h.2]
theorem okTso_len {own : List Nat} : ∀ {ts : Tgs} {es : List Expr}, okTso T c own ts es = true → es.length = tgsN ts
  | .nil, [], _ => rfl
  | .nil, _ :: _, h => by simp [okTso] at h
  | .cons m r, [], h => by simp [okTso] at h
  | .cons m r, e :: es, h => by
    simp only [okTso, Bool.and_eq_true] at h
    simp only [List.length_cons, tgsN, okTso_len h.2]
end
end G
set_option Elab.async false
set_option linter.all false
set_option maxRecDepth 100000
set_option maxHeartbeats 8000000
/-! The check is sound: expressions. -/
namespace G
open PySem PySem.Spec PyProof.Rows L2
section
variable {Z : Stat} {T : CT} {D : Ds}
theorem and2 {a b : Bool} (h : (a && b) = true) : a = true ∧ b = true := Bool.and_eq_true_iff.mp h
mutual
theorem sndE : ∀ (m : E) {W : WX} {c : CC} {X : Cx}, OkX Z T D W c X → ∀ (e : Expr), okE T c m e = true → R3 Z W D X m e
  | .var i, W, c, X, O, e, h => by
    cases e <;> try (simp [okE] at h; done)
    rename_i x p
    simp only [okE, Bool.and_eq_true] at h
    exact r3 O (s_var (O.ix h.1.1) (O.vis h.1.2) (dbg h.2).1 (dbg h.2).2) rfl rfl
  | .lit v, W, c, X, O, e, h => by
    cases e <;> try (simp [okE] at h; done)
    rename_i k j p
    cases k <;> try (simp [okE] at h; done)
    · cases v <;> try (simp [okE] at h; done)
      exact r3 O s_non rfl rfl
    · cases v <;> try (simp [okE] at h; done)
      simp only [okE, beq_iff_eq] at h
      subst h
      exact r3 O s_bl rfl rfl
    · cases v <;> try (simp [okE] at h; done)
      have e := of_decide_eq_true (show decide _ = true from h)
      subst e
      exact r3 O s_int rfl rfl
    · cases v <;> try (simp [okE] at h; done)
      simp only [okE, Bool.and_eq_true] at h
      have e := of_decide_eq_true h.2
      subst e
      exact r3 O (s_str h.1) rfl rfl
  | .gv _ _, W, c, X, O, e, h => by simp [okE] at h
  | .tup es, W, c, X, O, e, h => by
    cases e <;> try (simp [okE] at h; done)
    exact r3 O (s_tup (sndEs es O _ h)) rfl rfl
  | .lst _ es, W, c, X, O, e, h => by
    cases e <;> try (simp [okE] at h; done)
    exact r3 O (s_lst (sndEs es O _ h)) rfl rfl
  | .bin _ op a b, W, c, X, O, e, h => by
    cases e <;> try (simp [okE] at h; done)
    simp only [okE, Bool.and_eq_true] at h
    exact r3 O (bo_ok O h.1.1 (sndE a O _ h.1.2).1 (sndE b O _ h.2).1) rfl rfl
  | .cmp op a b, W, c, X, O, e, h => by
    cases e <;> try (simp [okE] at h; done)
    rename_i l os rs p
    match os, rs, h with
    | [], _, h => simp [okE] at h
    | [_], [], h => simp [okE] at h
    | [_], _ :: _ :: _, h => simp [okE] at h
    | _ :: _ :: _, _, h => simp [okE] at h
    | [o], [r], h =>
      simp only [okE, Bool.and_eq_true, Bool.not_eq_true'] at h
      have ho := of_decide_eq_true h.1.1.1
      subst ho
      have ha := (sndE a O _ h.1.2).1
      have hb := (sndE b O _ h.2).1
      exact r3b (s_cmp O.K O.hu ha hb h.1.1.2) (s_cmpB O.K O.hu ha hb h.1.1.2) rfl
  | .chain o1 o2 a b d, W, c, X, O, e, h => by
    cases e <;> try (simp [okE] at h; done)
    rename_i l os rs p
    match os, rs, h with
    | [], _, h => simp [okE] at h
    | [_], _, h => simp [okE] at h
    | [_, _], [], h => simp [okE] at h
    | [_, _], [_], h => simp [okE] at h
    | [_, _], _ :: _ :: _ :: _, h => simp [okE] at h
    | _ :: _ :: _ :: _, _, h => simp [okE] at h
    | [p1, p2], [r, q], h =>
      simp only [okE, Bool.and_eq_true, Bool.not_eq_true'] at h
      have e1 := of_decide_eq_true h.1.1.1.1.1
      have e2 := of_decide_eq_true h.1.1.1.1.2
      subst e1
      subst e2
      have ha := (sndE a O _ h.1.1.2).1
      have hb := (sndE b O _ h.1.2).1
      have hd := (sndE d O _ h.2).1
      exact r3b (s_chain O.K O.hu ha hb hd h.1.1.1.2) (s_chainB O.K O.hu ha hb hd h.1.1.1.2) rfl
  | .neg a, W, c, X, O, e, h => by
    cases e <;> try (simp [okE] at h; done)
    rename_i o x p
    cases o <;> try (simp [okE] at h; done)
    exact r3 O (s_neg (sndE a O _ h).1) rfl rfl
  | .not a, W, c, X, O, e, h => by
    cases e <;> try (simp [okE] at h; done)
    rename_i o x p
    cases o <;> try (simp [okE] at h; done)
    exact r3b (s_not O.K (sndE a O _ h).1) (s_notB (sndE a O _ h).2.1) rfl
  | .and a b, W, c, X, O, e, h => by
    cases e <;> try (simp [okE] at h; done)
    rename_i o xs p
    cases o <;> try (simp [okE] at h; done)
    match xs, h with
    | [], h => simp [okE] at h
    | [_], h => simp [okE] at h
    | [x, y], h =>
      simp only [okE, Bool.and_eq_true] at h
      have ha := sndE a O _ h.1
      have hb := sndE b O _ h.2
      have hw := s_andB ha.2.1 (⟨(pw_and1 (pos := p) hb.2.1).run⟩)
      exact ⟨s_and O.K ha.1 (pe_one hb.1), hw.pt, fun _ => hw⟩
    | x :: y :: z :: r, h =>
      simp only [okE, Bool.and_eq_true] at h
      have ha := sndE a O _ h.1
      have hb := sndE b O _ h.2
      have hw := s_andB ha.2.1 (hb.2.2 rfl)
      exact ⟨s_and O.K ha.1 hb.1, hw.pt, fun _ => hw⟩
  | .or a b, W, c, X, O, e, h => by
    cases e <;> try (simp [okE] at h; done)
    rename_i o xs p
    cases o <;> try (simp [okE] at h; done)
    match xs, h with
    | [], h => simp [okE] at h
    | [_], h => simp [okE] at h
    | [x, y], h =>
      simp only [okE, Bool.and_eq_true] at h
      have ha := sndE a O _ h.1
      have hb := sndE b O _ h.2
      have hw := s_orB ha.2.1 (⟨(pw_or1 (pos := p) hb.2.1).run⟩)
      exact ⟨s_or O.K ha.1 (pe_one hb.1), hw.pt, fun _ => hw⟩
    | x :: y :: z :: r, h =>
      simp only [okE, Bool.and_eq_true] at h
      have ha := sndE a O _ h.1
      have hb := sndE b O _ h.2
      have hw := s_orB ha.2.1 (hb.2.2 rfl)
      exact ⟨s_or O.K ha.1 hb.1, hw.pt, fun _ => hw⟩
  | .ite t a b, W, c, X, O, e, h => by
    cases e <;> try (simp [okE] at h; done)
    simp only [okE, Bool.and_eq_true] at h
    have ht := sndE t O _ h.1.1
    have ha := sndE a O _ h.1.2
    have hb := sndE b O _ h.2
    exact r3b (s_ite ht.2.1 ha.1 hb.1) (s_iteB ht.2.1 ha.2.1 hb.2.1) rfl
  | .idx a i, W, c, X, O, e, h => by
    cases e <;> try (simp [okE] at h; done)
    simp only [okE, Bool.and_eq_true] at h
    exact r3 O (s_idx O.K (sndE a O _ h.1.2).1 (sndE i O _ h.2).1 (plainI_ok h.1.1)) rfl rfl
  | .slice _ a lo hi, W, c, X, O, e, h => by
    cases e <;> try (simp [okE] at h; done)
    rename_i x y p
    cases y <;> try (simp [okE] at h; done)
    rename_i l u st p2
    cases st <;> try (simp [okE] at h; done)
    simp only [okE, Bool.and_eq_true] at h
    exact r3 O (s_slice O.K (sndE a O _ h.1.1).1 (sndO lo O _ h.1.2) (sndO hi O _ h.2)) rfl rfl
  | .rev _ a, W, c, X, O, e, h => by
    unfold okE at h
    split at h
    · exact r3 O (s_rev O.K (sndE a O _ h).1) rfl rfl
    · cases h
  | .fld a f, W, c, X, O, e, h => by
    cases e <;> try (simp [okE] at h; done)
    simp only [okE, Bool.and_eq_true] at h
    exact r3 O (s_fld O.fld (O.fnm f _ (of_decide_eq_true h.1.1)) (sndE a O _ h.2).1 (plainB_ok h.1.2)) rfl rfl
  | .call f es, W, c, X, O, e, h => by
    unfold okE at h
    split at h
    · simp only [Bool.and_eq_true] at h
      obtain ⟨k, n, fa, fd, ps, hr, F, hm, hk, hb, hn⟩ := O.call f _ (of_decide_eq_true h.1.1.1.1.1)
      exact r3 O (s_call F hr (O.gl h.1.1.1.1.2) hm hk hb O.tk hn (sndEs es O _ h.2) (dbg h.1.1.1.2).1 (star1 h.1.1.2) (stars h.1.2)) rfl rfl
    · cases h
  | .mkexc k es, W, c, X, O, e, h => by
    unfold okE at h
    split at h
    · rename_i x p args kws p2
      simp only [Bool.and_eq_true] at h
      obtain ⟨⟨h1, h2⟩, h3⟩ := h
      cases q : T.ens[k]? with
      | none => rw [q] at h3; cases h3
      | some y =>
        obtain ⟨y, pn⟩ := y
        rw [q] at h3
        dsimp only at h3
        obtain ⟨h4, h5⟩ := and2 h3
        have hx := of_decide_eq_true h4
        subst hx
        have EC := O.err k _ pn q
        match args, kws, h5 with
        | [], [], h5 =>
          cases es <;> try (simp at h5; done)
          exact r3 O (s_mkexc0 EC O.room2 (O.gl h1) (dbg h2).1) rfl rfl
        | y :: ys, [], h5 =>
          simp only [Bool.and_eq_true] at h5
          exact r3 O (s_mkexc EC O.room2 (O.gl h1) (dbg h2).1 (sndEs es O _ h5.2) (star1 h5.1.1) (stars h5.1.2)) rfl rfl
        | [], [⟨some q, z, kp⟩], h5 =>
          dsimp only at h5
          obtain ⟨h6, h7⟩ := and2 h5
          have hq := of_decide_eq_true h6
          subst hq
          match es, h7 with
          | .nil, h7 => cases h7
          | .cons m .nil, h7 => exact r3 O (s_mkexcK EC O.room2 (O.gl h1) (dbg h2).1 (sndE m O _ h7).1) rfl rfl
          | .cons _ (.cons _ _), h7 => cases h7
          | .cons _ (.star _ _), h7 => cases h7
          | .star _ _, h7 => cases h7
        | [], [⟨none, z, kp⟩], h5 => cases h5
        | [], _ :: _ :: _, h5 => simp at h5
        | _ :: _, _ :: _, h5 => simp at h5
    · cases h
  | .isin a ts, W, c, X, O, e, h => by
    unfold okE at h
    split at h
    · rename_i x p1 y z p2
      simp only [Bool.and_eq_true] at h
      obtain ⟨⟨⟨⟨⟨h1, h2⟩, h3⟩, h4⟩, h5⟩, h6⟩ := h
      have hx := of_decide_eq_true h1
      subst hx
      have hm : X.mg "isinstance" = none := O.blt _ (by decide)
      have ha := (sndE a O _ h5).1
      split at h6
      · exact r3 O (s_isin1 O.K O.isc (O.gl h2) hm ha (ty_ok O h6) (star1 h3) (star1 h4) (stars (by simp [h4]))) rfl rfl
      · split at h6
        · simp only [Bool.and_eq_true] at h6
          exact r3 O (s_isinT O.K O.isc (O.gl h2) hm ha (tys_ok O h6.1.1.1 h6.1.1.2) (by intro z; subst z; simp at h6) (of_decide_eq_true h6.2) (star1 h3) (stars (by simp [h4]))) rfl rfl
        · cases h6
    · cases h
  | .bi _ b es, W, c, X, O, e, h => by
    unfold okE at h
    split at h
    · rename_i x p1 y ys p2
      simp only [Bool.and_eq_true] at h
      have hx := of_decide_eq_true h.1.1.1.1
      have hmem : x ∈ bltNames := by
        cases b <;> first | (cases hx; done) | (cases (Option.some.inj hx); decide)
      exact r3 O (s_bi O.K O.calm hx (O.gl h.1.1.1.2) (O.blt x hmem) (sndEs es O _ h.2) (star1 h.1.1.2) (stars h.1.2)) rfl rfl
    · cases h
  | .bm b o es, W, c, X, O, e, h => by
    unfold okE at h
    split at h
    · rename_i x n ap y p
      simp only [Bool.and_eq_true] at h
      obtain ⟨⟨⟨⟨⟨⟨h1, h2⟩, h3⟩, h4⟩, h5⟩, h6⟩, h7⟩ := h
      have hx := of_decide_eq_true h2
      subst hx
      cases b <;> try (simp at h1; done)
      exact r3 O (s_append O.K (sndE o O _ h6).1 (sndEs es O _ h7) (plainB_ok h4) h3 (star1 h5)) rfl rfl
    · cases h
  | .split _ o s t ps, W, c, X, O, e, h => by
    unfold okE at h
    split at h
    · simp only [Bool.and_eq_true] at h
      obtain ⟨⟨⟨⟨⟨⟨⟨⟨h1, h2⟩, h3⟩, h4⟩, h5⟩, h6⟩, h7⟩, h8⟩, h9⟩ := h
      have hx := of_decide_eq_true h1
      subst hx
      exact r3 O (s_split (sndE o O _ h9).1 (of_decide_eq_true h4) (by intro z; subst z; simp at h5) (of_decide_eq_true h6) h7 (of_decide_eq_true h8) (plainB_ok h3) h2) rfl rfl
    · cases h
  | .lc z m tg it cd own, W, c, X, O, e, h => by
    unfold okE at h
    split at h
    · rename_i elt xt iter ifs scope p
      simp only [Bool.and_eq_true] at h
      obtain ⟨⟨⟨⟨⟨h1, h2⟩, h3⟩, h4⟩, h5⟩, h6⟩ := h
      have ok : BlkOk X.N X.env.scope scope (owOf c.N own) := by rw [O.hN, O.sc]; exact blkOk_by h1
      have hk : scope.kind = .function := ok.kind
      have eo := ow_map c.N own
      refine r3 O ?_ rfl rfl
      have key := s_lc (z := z) (pos := p) (me := m) (mt := tg) (mi := it) (mc := cd) (elt := elt) (ifs := ifs) O.calm O.nd (sndI it O xt iter h3) ok (fun s H C cl fp => ?_) (noSet_ok h2)
      · rw [eo] at key
        exact key
      · have OB := O.blk hk s H C cl fp
        refine ⟨by rw [eo]; exact sndTo tg own OB xt h4, ?_, (sndE m OB elt h5).1⟩
        match ifs, h6 with
        | [], h6 =>
          cases cd with
          | none => exact cn_none
          | some q => cases h6
        | [x], h6 =>
          cases cd with
          | none => cases h6
          | some q => exact cn_some (sndE q OB x h6).2.1
        | _ :: _ :: _, h6 => cases h6
    · cases h
  | .frz i, W, c, X, O, e, h => by
    cases e <;> try (simp [okE] at h; done)
    rename_i x p
    simp only [okE, Bool.and_eq_true] at h
    exact r3 O (s_frz (O.ix h.1.1) (O.vis h.1.2) (dbg h.2).1 (dbg h.2).2) rfl rfl
  | .nope, W, c, X, O, e, h => ⟨s_nope, ⟨fun _ _ _ _ _ _ ⟨_, _, _, _, _, P⟩ => P.elim⟩, fun _ => ⟨fun _ _ _ _ _ _ _ ⟨_, _, _, _, _, P⟩ => P.elim⟩⟩
theorem sndEs : ∀ (ms : Es) {W : WX} {c : CC} {X : Cx}, OkX Z T D W c X → ∀ (es : List Expr), okEs T c ms es = true → PA X es (tEs Z W D ms)
  | .nil, W, c, X, O, es, h => by
    cases es with
    | nil => exact s_nil
    | cons _ _ => simp [okEs] at h
  | .cons m r, W, c, X, O, es, h => by
    cases es with
    | nil => simp [okEs] at h
    | cons e es =>
      simp only [okEs, Bool.and_eq_true] at h
      exact s_cons (sndE m O e h.1.2).1 (sndEs r O es h.2) (star1 h.1.1)
  | .star _ _, W, c, X, O, es, h => by simp [okEs] at h
theorem sndO : ∀ (m : Eo) {W : WX} {c : CC} {X : Cx}, OkX Z T D W c X → ∀ (e : Option Expr), okO T c m e = true → PO X e (tEo Z W D m)
  | .none, W, c, X, O, e, h => by
    cases e with
    | none => exact s_none
    | some _ => simp [okO] at h
  | .some m, W, c, X, O, e, h => by
    cases e with
    | none => simp [okO] at h
    | some e => exact s_some (sndE m O e h).1
theorem sndI : ∀ (it : G.It) {W : WX} {c : CC} {X : Cx}, OkX Z T D W c X → ∀ (tg e : Expr), okI T c it tg e = true → PI X tg e (tI Z W D it)
  | .val m, W, c, X, O, tg, e, h => i_val O.K (sndE m O e h).1
  | .range1 m, W, c, X, O, tg, e, h => by
    unfold okI at h
    split at h
    · rename_i x p1 y p2
      simp only [Bool.and_eq_true] at h
      have hx := of_decide_eq_true h.1.1.1
      subst hx
      exact i_range1 (O.gl h.1.1.2) (O.blt _ (by decide)) (s_cons (sndE m O y h.2).1 s_nil (star1 h.1.2)) (star1 h.1.2)
    · cases h
  | .range2 m m2, W, c, X, O, tg, e, h => by
    unfold okI at h
    split at h
    · rename_i x p1 y z p2
      simp only [Bool.and_eq_true] at h
      obtain ⟨⟨⟨⟨⟨h1, h2⟩, h3⟩, h4⟩, h5⟩, h6⟩ := h
      have hx := of_decide_eq_true h1
      subst hx
      exact i_range2 (O.gl h2) (O.blt _ (by decide)) (s_cons (sndE m O y h5).1 (s_cons (sndE m2 O z h6).1 s_nil (star1 h4)) (star1 h3)) ((star1 h3).trans (by rw [star1 h4]; rfl)) (star1 h4)
    · cases h
  | .zip m m2, W, c, X, O, tg, e, h => by
    unfold okI at h
    split at h
    · rename_i x p1 y z p2
      simp only [Bool.and_eq_true] at h
      obtain ⟨⟨⟨⟨⟨⟨h1, h2⟩, h3⟩, h4⟩, h5⟩, h6⟩, h7⟩ := h
      have hx := of_decide_eq_true h1
      subst hx
      cases tg <;> try (simp at h7; done)
      exact i_zip O.K (O.gl h2) (O.blt _ (by decide)) (s_cons (sndE m O y h5).1 (s_cons (sndE m2 O z h6).1 s_nil (star1 h4)) (star1 h3)) (star1 h3) (stars (by simp [h4]))
    · cases h
  | .enum _, W, c, X, O, tg, e, h => by simp [okI] at h
theorem sndT : ∀ (t : Tg) {W : WX} {c : CC} {X : Cx}, OkX Z T D W c X → ∀ (e : Expr), okT T c t e = true → PG X e (tG Z D t)
  | .v i, W, c, X, O, e, h => by
    cases e <;> try (simp [okT] at h; done)
    simp only [okT, Bool.and_eq_true] at h
    exact g_name O.nd (O.ix h.1) (O.loc h.2).1 (O.loc h.2).2
  | .tup ts, W, c, X, O, e, h => by
    cases e <;> try (simp [okT] at h; done)
    simp only [okT, Bool.and_eq_true] at h
    exact g_tup O.K O.calm (sndTs ts O _ h.1 h.2) (okTs_len h.1) (asgStar h.2)
  | .sub o i, W, c, X, O, e, h => by
    cases e <;> try (simp [okT] at h; done)
    simp only [okT, Bool.and_eq_true] at h
    exact g_sub (sndE o O _ h.1.2).1 (sndE i O _ h.2).1 (asgSub h.1.1)
  | .at _ _, W, c, X, O, e, h => by simp [okT] at h
theorem sndTs : ∀ (ts : Tgs) {W : WX} {c : CC} {X : Cx}, OkX Z T D W c X → ∀ (es : List Expr), okTs T c ts es = true → es.all notStar = true → PGs X es (tGs Z D ts)
  | .nil, W, c, X, O, es, h, _ => by
    cases es with
    | nil => exact gs_nil
    | cons _ _ => simp [okTs] at h
  | .cons t r, W, c, X, O, es, h, hs => by
    cases es with
    | nil => simp [okTs] at h
    | cons e es =>
      simp only [okTs, Bool.and_eq_true] at h
      simp only [List.all_cons, Bool.and_eq_true] at hs
      exact gs_cons (sndT t O e h.1) (sndTs r O es h.2 hs.2) (asg1 hs.1)
theorem sndTo : ∀ (t : Tg) (own : List Nat) {W : WX} {c : CC} {X : Cx}, OkX Z T D W c X → ∀ (e : Expr), okTo T c own t e = true → PG X e (tGo Z D own t)
  | .v i, own, W, c, X, O, e, h => by
    cases e <;> try (simp [okTo] at h; done)
    simp only [okTo, Bool.and_eq_true] at h
    exact go_name O.nd (O.ix h.1.1) (O.loc h.1.2).1 (O.loc h.1.2).2 (List.contains_iff_mem.mp h.2)
  | .tup ts, own, W, c, X, O, e, h => by
    cases e <;> try (simp [okTo] at h; done)
    simp only [okTo, Bool.and_eq_true] at h
    exact go_tup O.K O.calm (sndTso ts own O _ h.1 h.2) (okTso_len h.1) (asgStar h.2)
  | .sub o i, own, W, c, X, O, e, h => by cases e <;> simp [okTo] at h
  | .at _ _, own, W, c, X, O, e, h => by cases e <;> simp [okTo] at h
theorem sndTso : ∀ (ts : Tgs) (own : List Nat) {W : WX} {c : CC} {X : Cx}, OkX Z T D W c X → ∀ (es : List Expr), okTso T c own ts es = true → es.all notStar = true → PGs X es (tGso Z D own ts)
  | .nil, own, W, c, X, O, es, h, _ => by
    cases es with
    | nil => exact gos_nil
    | cons _ _ => simp [okTso] at h
  | .cons t r, own, W, c, X, O, es, h, hs => by
    cases es with
    | nil => simp [okTso] at h
    | cons e es =>
      simp only [okTso, Bool.and_eq_true] at h
      simp only [List.all_cons, Bool.and_eq_true] at hs
      exact gos_cons (sndTo t own O e h.1) (sndTso r own O es h.2 hs.2) (asg1 hs.1)
end
end
end G
set_option Elab.async false
set_option linter.all false
set_option maxRecDepth 100000
set_option maxHeartbeats 8000000
/-! The check is sound: statements, defs. -/
namespace G
open PySem PySem.Spec PyProof.Rows L2
section
variable {Z : Stat} {T : CT} {D : Ds} {W : WX} {c : CC} {X : Cx}
theorem nms_names : ∀ {ts : List Expr} {xs : List PySem.Str}, nms ts = some xs → ∃ ps : List (PySem.Str × Pos), xs = ps.map (·.1) ∧ ts = ps.map fun p => .Name p.1 p.2
  | [], xs, h => ⟨[], (Option.some.inj h).symm, rfl⟩
  | e :: r, xs, h => by
    cases e <;> try (simp [nms] at h; done)
    rename_i x p
    simp only [nms] at h
    cases q : nms r with
    | none => rw [q] at h; cases h
    | some ys =>
      rw [q] at h
      obtain ⟨ps, h1, h2⟩ := nms_names q
      exact ⟨(x, p) :: ps, by rw [← Option.some.inj h, h1]; rfl, by rw [h2]; rfl⟩
theorem swapLc_ok (O : OkX Z T D W c X) {x : PySem.Str} {px : Pos} {e : Expr} {l : Nat} (h : swapLc c.sc x px e = true) : swapsWith e (some (.Name x px)) l X.env = pure true := by
  cases e <;> try (simp [swapLc] at h; done)
  rename_i elt gens scope pos
  simp only [swapLc, Bool.and_eq_true] at h
  obtain ⟨⟨h1, h2⟩, h3⟩ := h
  have hb : (X.env.blockKind == .function) = true := by
    unfold Env.blockKind
    rw [O.sc, O.kd]
    rfl
  have hl : (X.env.kindOf x == some .local) = true := by
    show (X.env.scope.names.lookup x == some .local) = true
    rw [O.loc1 h1]
    rfl
  show (pure (X.env.blockKind == .function && X.env.kindOf x == some .local && px.line == pos.line && !(scope.names.any fun (n, k) => n == x && (k == .local || k == .cell))) : Sem Bool) = pure true
  rw [hb, hl, h2, h3]
  rfl
theorem ne_of_bne {i j : Nat} (h : (i != j) = true) : i ≠ j := by simpa using h
theorem sndAsg (O : OkX Z T D W c X) {t : Tg} {m : E} {tg e : Expr} {pos : Pos} (h : okAsg T c t m tg e = true) : PS X (.Assign [tg] e pos) (tS Z W D (.asg t m)) := by
  have gen : ∀ tg, okT T c t tg = true → okE T c m e = true → noComp e = true → notStar tg = true → swappedStores [tg] e X.env = pure none → PS X (.Assign [tg] e pos) (tS Z W D (.asg t m)) := fun tg h1 h2 h3 h4 h5 =>
    s_asg (sndE m O e h2).1 (sndT t O tg h1) (noComp_ok (t := some tg) h3) h5 (asg1 (es := []) h4)
  cases tg <;> try (simp [okAsg] at h; done)
  · rename_i o i p
    simp only [okAsg, Bool.and_eq_true] at h
    exact gen _ h.1.2 h.2 h.1.1 rfl (swN_ok rfl)
  · rename_i x px
    simp only [okAsg, Bool.and_eq_true] at h
    obtain ⟨⟨h1, h2⟩, h3⟩ := h
    cases t <;> try (simp at h1; done)
    rename_i i
    simp only [Bool.and_eq_true] at h1
    by_cases hs : swapLc c.sc x px e = true
    · have hsw := swapLc_ok O (l := pos.line) hs
      cases e <;> try (simp [swapLc] at hs; done)
      rename_i elt gens scope lp
      simp only [swapLc, Bool.and_eq_true] at hs
      by_cases hm : m = .nope
      · subst hm
        exact ⟨fun _ _ _ _ _ _ ⟨_, _, _, _, _, P⟩ => P.elim⟩
      cases m <;> first | (simp [okE] at h2; done) | exact absurd rfl hm | skip
      rename_i z m tg it cd own
      unfold okE at h2
      split at h2
      · rename_i elt' xt iter ifs scope' p heq
        cases heq
        simp only [Bool.and_eq_true] at h2
        obtain ⟨⟨⟨⟨⟨h4, h5⟩, h6⟩, h7⟩, h8⟩, h9⟩ := h2
        have ok : BlkOk X.N X.env.scope scope (owOf c.N own) := by rw [O.hN, O.sc]; exact blkOk_by h4
        have hk : scope.kind = .function := ok.kind
        have eo := ow_map c.N own
        have key := s_setLc (z := z) (W := W) (D := D) (Z := Z) (me := m) (mt := tg) (mi := it) (mc := cd) (elt := elt) (ifs := ifs) O.calm O.nd (O.ix h1.1) (O.loc1 hs.1.1) hsw (sndI it O xt iter h6) ok (fun s H C cl fp => ?_) (noSet_ok h5)
        · rw [eo] at key
          exact key
        · have OB := O.blk hk s H C cl fp
          refine ⟨by rw [eo]; exact sndTo tg own OB xt h7, ?_, (sndE m OB elt h8).1⟩
          match ifs, h9 with
          | [], h9 =>
            cases cd with
            | none => exact cn_none
            | some q => cases h9
          | [x], h9 =>
            cases cd with
            | none => cases h9
            | some q => exact cn_some (sndE q OB x h9).2.1
          | _ :: _ :: _, h9 => cases h9
      · cases h2
    · have hn : noComp e = true := by simpa [hs] using h3
      exact s_set O.nd (O.ix h1.1) (O.loc h1.2).1 (sndE m O e h2).1 (noComp_ok hn) (O.loc h1.2).2
  · rename_i ts k p
    cases e
    case Tuple vs k2 p2 =>
      simp only [okAsg] at h
      have hkd : X.env.scope.kind = .function := by rw [O.sc]; exact O.kd
      cases q : swB c.sc ts vs with
      | none => rw [q] at h; cases h
      | some r =>
        rw [q] at h
        have hw : swappedStores [.Tuple ts k p] (.Tuple vs k2 p2) X.env = pure r := swB_ok hkd (by rw [O.sc]; exact q)
        cases r with
        | none =>
          simp only [Bool.and_eq_true] at h
          exact gen _ h.1 h.2 rfl rfl hw
        | some xs =>
          simp only [Bool.and_eq_true] at h
          have hnm := of_decide_eq_true h.1
          obtain ⟨ps, e1, e2⟩ := nms_names hnm
          subst e1
          subst e2
          have h2 := h.2
          split at h2
          · rename_i ms
            obtain ⟨h3, h4⟩ := and2 h2
            split at h4
            · rename_i i j
              obtain ⟨h5, h6⟩ := and2 h4
              have hl := of_decide_eq_true h6
              match ps, h5, hw with
              | [], h5, _ => simp [okPar] at h5
              | [_], h5, _ => simp [okPar] at h5
              | _ :: _ :: _ :: _, h5, _ => simp [okPar] at h5
              | [(x, px), (y, py)], h5, hw =>
                simp only [okPar, List.map_cons, List.map_nil, Bool.and_eq_true] at h5
                obtain ⟨⟨⟨⟨g1, g2⟩, g3⟩, g4⟩, g5⟩ := h5
                match vs, hl, h3, hw with
                | [a, b], _, h3, hw => exact s_par O.calm O.nd (O.ix g1) (O.ix g2) (ne_of_bne g3) (O.loc1 g4) (O.loc1 g5) (sndEs ms O _ h3) hw rfl
            · rename_i i j k
              obtain ⟨h5, h6⟩ := and2 h4
              have hl := of_decide_eq_true h6
              match ps, h5, hw with
              | [], h5, _ => simp [okPar] at h5
              | [_], h5, _ => simp [okPar] at h5
              | [_, _], h5, _ => simp [okPar] at h5
              | _ :: _ :: _ :: _ :: _, h5, _ => simp [okPar] at h5
              | [(x, px), (y, py), (z, pz)], h5, hw =>
                simp only [okPar, List.map_cons, List.map_nil, Bool.and_eq_true] at h5
                obtain ⟨⟨⟨⟨⟨⟨⟨⟨g1, g2⟩, g3⟩, g4⟩, g5⟩, g6⟩, g7⟩, g8⟩, g9⟩ := h5
                match vs, hl, h3, hw with
                | [a, b, d], _, h3, hw => exact s_par3 O.calm O.nd (O.ix g1) (O.ix g2) (O.ix g3) (ne_of_bne g4) (ne_of_bne g5) (ne_of_bne g6) (O.loc1 g7) (O.loc1 g8) (O.loc1 g9) (sndEs ms O _ h3) hw rfl
            · cases h4
          · cases h2
    all_goals
      simp only [okAsg, Bool.and_eq_true] at h
      exact gen _ h.1.2 h.2 h.1.1 rfl (swN_ok rfl)
mutual
theorem sndSt : ∀ (m : S) {W : WX} {c : CC} {X : Cx}, OkX Z T D W c X → PassesOwn (model X.prog X.w) X.A X.env X.xe → ∀ (s : Stmt), okSt T c m s = true → PS X s (tS Z W D m)
  | .expr m, W, c, X, O, hp, s, h => by
    cases s <;> try (simp [okSt] at h; done)
    simp only [okSt, Bool.and_eq_true] at h
    exact s_expr (sndE m O _ h.2).1 (noComp_ok h.1)
  | .asg t m, W, c, X, O, hp, s, h => by
    unfold okSt at h
    split at h
    · exact sndAsg O h
    · cases h
  | .ite t a b, W, c, X, O, hp, s, h => by
    cases s <;> try (simp [okSt] at h; done)
    simp only [okSt, Bool.and_eq_true] at h
    exact s_if (sndE t O _ h.1.1).2.1 (sndSs a O hp _ h.1.2) (sndSs b O hp _ h.2)
  | .for_ t it b, W, c, X, O, hp, s, h => by
    unfold okSt at h
    split at h
    · simp only [Bool.and_eq_true] at h
      exact s_for hp O.calm (sndI it O _ _ h.1.1.2) (sndT t O _ h.1.2) (sndSs b O hp _ h.2) (noSet_ok h.1.1.1)
    · cases h
  | .while_ t b, W, c, X, O, hp, s, h => by
    unfold okSt at h
    split at h
    · simp only [Bool.and_eq_true] at h
      exact s_while hp (sndE t O _ h.1).2.1 (sndSs b O hp _ h.2)
    · cases h
  | .ret m, W, c, X, O, hp, s, h => by
    unfold okSt at h
    split at h
    · cases m with
      | none => cases h
      | some m => exact s_ret (sndE m O _ h).1
    · cases m with
      | none => exact s_retN
      | some m => cases h
    · cases h
  | .pass, W, c, X, O, hp, s, h => by
    cases s <;> try (simp [okSt] at h; done)
    exact s_pass
  | .brk, W, c, X, O, hp, s, h => by
    cases s <;> try (simp [okSt] at h; done)
    exact s_brk
  | .cont, W, c, X, O, hp, s, h => by
    cases s <;> try (simp [okSt] at h; done)
    exact s_cont
  | .aug _ _ _, W, c, X, O, hp, s, h => by simp [okSt] at h
  | .nope, W, c, X, O, hp, s, h => ⟨fun _ _ _ _ _ _ ⟨_, _, _, _, _, P⟩ => P.elim⟩
theorem sndSs : ∀ (ms : Ss) {W : WX} {c : CC} {X : Cx}, OkX Z T D W c X → PassesOwn (model X.prog X.w) X.A X.env X.xe → ∀ (ss : List Stmt), okSs T c ms ss = true → PSs X ss (tSs Z W D ms)
  | .nil, W, c, X, O, hp, ss, h => by
    cases ss with
    | nil => exact ss_nil
    | cons _ _ => simp [okSs] at h
  | .cons m r, W, c, X, O, hp, ss, h => by
    cases ss with
    | nil => simp [okSs] at h
    | cons s ss =>
      simp only [okSs, Bool.and_eq_true] at h
      exact ss_cons (sndSt m O hp s h.1) (sndSs r O hp ss h.2)
end
end
end G
set_option linter.all false
set_option maxHeartbeats 1000000
/-! What an evaluation leaves of the heap as it was. -/
namespace G
structure Keep (h h' : MHp) : Prop where
  n : h.n ≤ h'.n
  m : h'.m ≤ h.m
  g : ∀ a, a < h.n → a < h'.m → h'.get a = h.get a
theorem Keep.refl {h : MHp} : Keep h h := ⟨Nat.le_refl _, Nat.le_refl _, fun _ _ _ => rfl⟩
theorem Keep.trans {h h1 h2 : MHp} (a : Keep h h1) (b : Keep h1 h2) : Keep h h2 :=
  ⟨Nat.le_trans a.n b.n, Nat.le_trans b.m a.m, fun x hx hm => (b.g x (Nat.lt_of_lt_of_le hx a.n) hm).trans (a.g x hx (Nat.lt_of_lt_of_le hm b.m))⟩
theorem Keep.push {h : MHp} (o : MO) : Keep h (h.push o) :=
  ⟨Nat.le_succ _, Nat.le_refl _, fun a ha _ => by rw [MHp.get_push, if_neg (Nat.ne_of_lt ha)]⟩
theorem Keep.set {h : MHp} {a : Nat} (o : MO) (ha : a < h.n) : Keep h (h.set a o) :=
  ⟨Nat.le_refl _, by show (if a < h.m then a else h.m) ≤ h.m; split <;> omega, fun b _ hm => by
    rw [MHp.get_set _ _ ha, if_neg]
    have hm : b < (if a < h.m then a else h.m) := hm
    split at hm <;> omega⟩
theorem Keep.del {h : MHp} {a : Nat} (ha : a < h.n) : Keep h (h.del a) :=
  ⟨Nat.le_refl _, by show (if a < h.m then a else h.m) ≤ h.m; split <;> omega, fun b _ hm => by
    rw [MHp.get_del _ ha, if_neg]
    have hm : b < (if a < h.m then a else h.m) := hm
    split at hm <;> omega⟩
def R.Kp {α : Type} (h : MHp) (r : R α) : Prop := match r with
  | .ok _ h' => Keep h h'
  | .ex _ h' => Keep h h'
  | .no => True
section
variable {α β : Type} {h : MHp}
theorem Kp.ok {a : α} : (R.ok a h).Kp h := Keep.refl
theorem Kp.no : (R.no : R α).Kp h := trivial
theorem Kp.get {x : Option α} : (R.get x h).Kp h := by cases x <;> first | exact trivial | exact Keep.refl
theorem Kp.later {h0 : MHp} {r : R α} (k : Keep h0 h) (p : r.Kp h) : r.Kp h0 := by
  cases r with
  | ok a h' => exact k.trans p
  | ex e h' => exact k.trans p
  | no => exact trivial
theorem Kp.bind {x : R α} {k : α → MHp → R β} (p : x.Kp h) (q : ∀ a h', (k a h').Kp h') : (x.bind k).Kp h := by
  cases x with
  | ok a h' => exact Kp.later p (q a h')
  | ex e h' => exact p
  | no => exact trivial
theorem Kp.calm {x : R α} {k : α → MHp → R β} (p : x.Kp h) (q : ∀ a h', (k a h').Kp h') : (x.calm k).Kp h := by
  cases x with
  | ok a h' => exact Kp.later p (q a h')
  | ex e h' => exact trivial
  | no => exact trivial
theorem Kp.lift {x : R α} {fr : Fr} {k : α → MHp → R Ctl} (p : x.Kp h) (q : ∀ a h', (k a h').Kp h') : (x.lift fr k).Kp h := by
  cases x with
  | ok a h' => exact Kp.later p (q a h')
  | ex e h' => exact p
  | no => exact trivial
theorem Kp.newL {z : Bool} {xs : List MV} : (newL z xs h).Kp h := by
  unfold G.newL
  split
  · cases z
    · exact Keep.push _
    · exact Keep.refl
  · exact trivial
theorem Kp.binM {z : Bool} {op : Bo} {x y : MV} : (binM z op x y h).Kp h := by
  unfold G.binM
  repeat' split
  all_goals first | exact Kp.no | exact Kp.ok | exact Kp.newL
theorem Kp.biM {z : Bool} {b : Bi} {vs : List MV} : (biM z b vs h).Kp h := by
  unfold G.biM
  repeat' split
  all_goals first | exact Kp.no | exact Kp.ok | exact Kp.newL
theorem Kp.bmM {b : Bm} {o : MV} {vs : List MV} : (bmM b o vs h).Kp h := by
  unfold G.bmM
  repeat' split
  all_goals first | exact Kp.no | exact Kp.ok | exact Kp.newL | exact Keep.set _ (MHp.get_lt ‹_›)
theorem Kp.sliceM {z : Bool} {v : MV} {lo hi : Option Int} : (sliceM z v lo hi h).Kp h := by
  unfold G.sliceM
  repeat' split
  all_goals first | exact Kp.no | exact Kp.ok | exact Kp.newL
theorem Kp.setIdx {o i v : MV} : (setIdx o i v h).Kp h := by
  unfold G.setIdx
  repeat' split
  all_goals first | exact Kp.no | exact Kp.ok | exact Keep.set _ (MHp.get_lt ‹_›)
theorem Kp.setFld {o v : MV} {f : Nat} : (setFld o f v h).Kp h := by
  unfold G.setFld
  repeat' split
  all_goals first | exact Kp.no | exact Kp.ok | exact Keep.set _ (MHp.get_lt ‹_›)
end
theorem Kp.forL {src : Src} {body : MV → Fr → MHp → R Ctl} (hb : ∀ x fr h, (body x fr h).Kp h) : ∀ (n i : Nat) (fr : Fr) (h : MHp), (forL src body n i fr h).Kp h
  | 0, _, _, _ => trivial
  | n + 1, i, fr, h => by
    unfold G.forL
    split
    · exact trivial
    · exact Kp.ok
    · refine Kp.calm (hb _ _ _) fun c h1 => ?_
      cases c with
      | nx fr => exact Kp.forL hb n (i + 1) fr h1
      | ct fr => exact Kp.forL hb n (i + 1) fr h1
      | _ => exact Kp.ok
theorem Kp.lcL {src : Src} {turn : MV → MHp → R (Option MV)} (hb : ∀ x h, (turn x h).Kp h) : ∀ (n i : Nat) (acc : List MV) (h : MHp), (lcL src turn n i acc h).Kp h
  | 0, _, _, _ => trivial
  | n + 1, i, acc, h => by
    unfold G.lcL
    split
    · exact trivial
    · exact Kp.ok
    · refine Kp.calm (hb _ _) fun o h1 => ?_
      cases o with
      | none => exact Kp.lcL hb n (i + 1) acc h1
      | some y =>
        dsimp only
        split
        · exact Kp.lcL hb n (i + 1) _ h1
        · exact trivial
theorem Kp.whileL {test : Fr → MHp → R Bool} {body : Fr → MHp → R Ctl} (ht : ∀ fr h, (test fr h).Kp h) (hb : ∀ fr h, (body fr h).Kp h) : ∀ (n : Nat) (fr : Fr) (h : MHp), (whileL test body n fr h).Kp h
  | 0, _, _ => trivial
  | n + 1, fr, h => by
    unfold G.whileL
    refine Kp.lift (ht _ _) fun b h1 => ?_
    cases b with
    | false => exact Kp.ok
    | true =>
      refine Kp.calm (hb _ _) fun c h2 => ?_
      cases c with
      | nx fr => exact Kp.whileL ht hb n fr h2
      | ct fr => exact Kp.whileL ht hb n fr h2
      | _ => exact Kp.ok
variable {D : Ds}
mutual
theorem kpE (hD : ∀ f vs h, (D.call f vs h).Kp h) : ∀ (e : E) (fr : Fr) (h : MHp), (evE D e fr h).Kp h
  | .var i, fr, h => by unfold evE; exact Kp.get
  | .lit v, fr, h => by unfold evE; exact Kp.ok
  | .gv _ v, fr, h => by unfold evE; exact Kp.ok
  | .tup es, fr, h => by unfold evE; exact Kp.bind (kpEs hD es fr h) fun vs h1 => by split <;> first | exact Kp.ok | exact Kp.no
  | .lst z es, fr, h => by unfold evE; exact Kp.bind (kpEs hD es fr h) fun vs h1 => Kp.newL
  | .bin z op a b, fr, h => by unfold evE; exact Kp.bind (kpE hD a fr h) fun x h1 => Kp.bind (kpE hD b fr h1) fun y h2 => Kp.binM
  | .cmp op a b, fr, h => by unfold evE; exact Kp.bind (kpE hD a fr h) fun x h1 => Kp.bind (kpE hD b fr h1) fun y h2 => Kp.get
  | .chain o1 o2 a b c, fr, h => by
    unfold evE
    refine Kp.bind (kpE hD a fr h) fun x h1 => Kp.bind (kpE hD b fr h1) fun y h2 => ?_
    split
    · exact Kp.bind (kpE hD c fr h2) fun z h3 => Kp.get
    · exact Kp.ok
    · exact Kp.no
  | .neg a, fr, h => by unfold evE; exact Kp.bind (kpE hD a fr h) fun x h1 => by split <;> first | exact Kp.ok | exact Kp.no
  | .not a, fr, h => by unfold evE; exact Kp.bind (kpE hD a fr h) fun x h1 => Kp.get
  | .and a b, fr, h => by
    unfold evE
    refine Kp.bind (kpE hD a fr h) fun x h1 => ?_
    split
    · exact kpE hD b fr h1
    · exact Kp.ok
    · exact Kp.no
  | .or a b, fr, h => by
    unfold evE
    refine Kp.bind (kpE hD a fr h) fun x h1 => ?_
    split
    · exact Kp.ok
    · exact kpE hD b fr h1
    · exact Kp.no
  | .ite c a b, fr, h => by
    unfold evE
    refine Kp.bind (kpE hD c fr h) fun x h1 => ?_
    split
    · exact kpE hD a fr h1
    · exact kpE hD b fr h1
    · exact Kp.no
  | .idx a i, fr, h => by unfold evE; exact Kp.bind (kpE hD a fr h) fun x h1 => Kp.bind (kpE hD i fr h1) fun y h2 => Kp.get
  | .slice z a lo hi, fr, h => by unfold evE; exact Kp.bind (kpE hD a fr h) fun x h1 => Kp.bind (kpO hD lo fr h1) fun l h2 => Kp.bind (kpO hD hi fr h2) fun u h3 => Kp.sliceM
  | .rev z a, fr, h => by unfold evE; exact Kp.bind (kpE hD a fr h) fun x h1 => by split <;> first | exact Kp.newL | exact Kp.no
  | .fld a f, fr, h => by unfold evE; exact Kp.bind (kpE hD a fr h) fun x h1 => Kp.get
  | .call f es, fr, h => by unfold evE; exact Kp.bind (kpEs hD es fr h) fun vs h1 => hD f vs h1
  | .mkexc c es, fr, h => by
    unfold evE
    refine Kp.bind (kpEs hD es fr h) fun vs h1 => ?_
    split
    · split
      · exact Kp.ok
      · exact Kp.no
    · exact Kp.no
  | .isin a ts, fr, h => by unfold evE; exact Kp.bind (kpE hD a fr h) fun x h1 => Kp.get
  | .bi z b es, fr, h => by unfold evE; exact Kp.bind (kpEs hD es fr h) fun vs h1 => Kp.biM
  | .bm b o es, fr, h => by
    unfold evE
    refine Kp.bind (kpE hD o fr h) fun x h1 => ?_
    split
    · exact Kp.bind (kpEs hD es fr h1) fun vs h2 => Kp.bmM
    · exact Kp.no
  | .split z o s t ps, fr, h => by
    unfold evE
    refine Kp.bind (kpE hD o fr h) fun x h1 => ?_
    split
    · split
      · exact Kp.newL
      · exact Kp.no
    · exact Kp.no
  | .lc z e tg it c own, fr, h => by
    unfold evE
    refine Kp.bind (kpI hD it fr h) fun src h1 => Kp.bind (Kp.lcL (fun x h2 => ?_) _ _ _ _) fun xs h2 => Kp.newL
    refine Kp.bind (kpT hD tg x _ h2) fun fr2 h3 => Kp.bind (kpC hD c fr2 h3) fun b h4 => ?_
    split
    · exact Kp.bind (kpE hD e fr2 h4) fun y h5 => Kp.ok
    · exact Kp.ok
  | .frz i, fr, h => by
    unfold evE
    split
    · split
      · exact Keep.del (MHp.get_lt ‹_›)
      · exact Kp.no
    · exact Kp.no
  | .nope, fr, h => by unfold evE; exact Kp.no
theorem kpEs (hD : ∀ f vs h, (D.call f vs h).Kp h) : ∀ (es : Es) (fr : Fr) (h : MHp), (evEs D es fr h).Kp h
  | .nil, fr, h => by unfold evEs; exact Kp.ok
  | .cons e r, fr, h => by unfold evEs; exact Kp.bind (kpE hD e fr h) fun x h1 => Kp.bind (kpEs hD r fr h1) fun xs h2 => Kp.ok
  | .star e r, fr, h => by
    unfold evEs
    refine Kp.bind (kpE hD e fr h) fun x h1 => ?_
    split
    · exact Kp.bind (kpEs hD r fr h1) fun xs h2 => Kp.ok
    · exact Kp.no
theorem kpO (hD : ∀ f vs h, (D.call f vs h).Kp h) : ∀ (e : Eo) (fr : Fr) (h : MHp), (evO D e fr h).Kp h
  | .none, fr, h => by unfold evO; exact Kp.ok
  | .some e, fr, h => by unfold evO; exact Kp.bind (kpE hD e fr h) fun x h1 => by split <;> first | exact Kp.ok | exact Kp.no
theorem kpC (hD : ∀ f vs h, (D.call f vs h).Kp h) : ∀ (e : Eo) (fr : Fr) (h : MHp), (evC D e fr h).Kp h
  | .none, fr, h => by unfold evC; exact Kp.ok
  | .some e, fr, h => by unfold evC; exact Kp.bind (kpE hD e fr h) fun x h1 => Kp.get
theorem kpI (hD : ∀ f vs h, (D.call f vs h).Kp h) : ∀ (e : It) (fr : Fr) (h : MHp), (evI D e fr h).Kp h
  | .val e, fr, h => by unfold evI; exact Kp.bind (kpE hD e fr h) fun x h1 => Kp.get
  | .range1 e, fr, h => by
    unfold evI
    refine Kp.bind (kpE hD e fr h) fun x h1 => ?_
    split
    · split <;> first | exact Kp.ok | exact Kp.no
    · exact Kp.no
  | .range2 a b, fr, h => by
    unfold evI
    refine Kp.bind (kpE hD a fr h) fun x h1 => Kp.bind (kpE hD b fr h1) fun y h2 => ?_
    split
    · split <;> first | exact Kp.ok | exact Kp.no
    · exact Kp.no
  | .enum _, fr, h => by unfold evI; exact Kp.no
  | .zip a b, fr, h => by
    unfold evI
    refine Kp.bind (kpE hD a fr h) fun x h1 => Kp.bind (kpE hD b fr h1) fun y h2 => ?_
    split
    · exact Kp.ok
    · exact Kp.no
theorem kpT (hD : ∀ f vs h, (D.call f vs h).Kp h) : ∀ (t : Tg) (x : MV) (fr : Fr) (h : MHp), (evT D t x fr h).Kp h
  | .v i, x, fr, h => by unfold evT; exact Kp.ok
  | .tup ts, x, fr, h => by
    unfold evT
    split
    · split
      · exact kpTs hD ts _ fr h
      · exact Kp.no
    · exact Kp.no
  | .sub o i, x, fr, h => by unfold evT; exact Kp.bind (kpE hD o fr h) fun ov h1 => Kp.bind (kpE hD i fr h1) fun iv h2 => Kp.bind Kp.setIdx fun _ h3 => Kp.ok
  | .at o f, x, fr, h => by unfold evT; exact Kp.bind (kpE hD o fr h) fun ov h1 => Kp.bind Kp.setFld fun _ h3 => Kp.ok
theorem kpTs (hD : ∀ f vs h, (D.call f vs h).Kp h) : ∀ (t : Tgs) (x : List MV) (fr : Fr) (h : MHp), (evTs D t x fr h).Kp h
  | .nil, xs, fr, h => by
    unfold evTs
    split <;> first | exact Kp.ok | exact Kp.no
  | .cons t r, xs, fr, h => by
    unfold evTs
    split
    · exact Kp.bind (kpT hD t _ fr h) fun fr1 h1 => kpTs hD r _ fr1 h1
    · exact Kp.no
end
mutual
theorem kpS (hD : ∀ f vs h, (D.call f vs h).Kp h) : ∀ (s : S) (fr : Fr) (h : MHp), (exS D s fr h).Kp h
  | .expr e, fr, h => by unfold exS; exact Kp.lift (kpE hD e fr h) fun _ h1 => Kp.ok
  | .asg t e, fr, h => by unfold exS; exact Kp.lift (kpE hD e fr h) fun x h1 => Kp.calm (kpT hD t x fr h1) fun fr h2 => Kp.ok
  | .aug op i e, fr, h => by
    unfold exS
    split
    · exact Kp.lift (kpE hD e fr h) fun y h1 => Kp.calm Kp.binM fun z h2 => Kp.ok
    · exact Kp.no
  | .ite c a b, fr, h => by
    unfold exS
    refine Kp.lift (Kp.bind (kpE hD c fr h) fun x h1 => Kp.get) fun t h1 => ?_
    split
    · exact kpSs hD a fr h1
    · exact kpSs hD b fr h1
  | .for_ t it b, fr, h => by
    unfold exS
    exact Kp.lift (kpI hD it fr h) fun src h1 => Kp.forL (fun x fr h => Kp.calm (kpT hD t x fr h) fun fr h => kpSs hD b fr h) _ _ _ _
  | .while_ c b, fr, h => by
    unfold exS
    exact Kp.whileL (fun fr h => Kp.bind (kpE hD c fr h) fun x h1 => Kp.get) (fun fr h => kpSs hD b fr h) _ _ _
  | .ret e, fr, h => by
    cases e with
    | none => unfold exS; exact Kp.ok
    | some e => unfold exS; exact Kp.lift (kpE hD e fr h) fun v h1 => Kp.ok
  | .pass, fr, h => by unfold exS; exact Kp.ok
  | .brk, fr, h => by unfold exS; exact Kp.ok
  | .cont, fr, h => by unfold exS; exact Kp.ok
  | .nope, fr, h => by unfold exS; exact Kp.no
theorem kpSs (hD : ∀ f vs h, (D.call f vs h).Kp h) : ∀ (s : Ss) (fr : Fr) (h : MHp), (exSs D s fr h).Kp h
  | .nil, fr, h => by unfold exSs; exact Kp.ok
  | .cons s r, fr, h => by
    unfold exSs
    refine Kp.calm (kpS hD s fr h) fun c h1 => ?_
    cases c with
    | nx fr => exact kpSs hD r fr h1
    | _ => exact Kp.ok
end
theorem Kp.endM {c : Ctl} {h : MHp} : (endM c h).Kp h := by cases c <;> first | exact Keep.refl | exact trivial
theorem Kp.rest {r : R MV} {h : MHp} (p : r.Kp h.mark) : (r.rest h).Kp h := by
  have key : ∀ h', Keep h.mark h' → Keep h (h'.unmark h.m) := fun h' k =>
    ⟨k.n, by show (if h.m < h'.m then h.m else h'.m) ≤ h.m; split <;> omega, fun a ha hm => k.g a ha (by have hm : a < (if h.m < h'.m then h.m else h'.m) := hm; split at hm <;> omega)⟩
  cases r with
  | ok v h' =>
    show R.Kp h (if h.n ≤ h'.m ∧ v.under h.n = true then R.ok v h else R.ok v (h'.unmark h.m))
    split
    · exact Keep.refl
    · exact key h' p
  | ex v h' =>
    show R.Kp h (if h.n ≤ h'.m ∧ v.under h.n = true then R.ex v h else R.ex v (h'.unmark h.m))
    split
    · exact Keep.refl
    · exact key h' p
  | no => exact trivial
theorem kpN (defs : List Df) (T : Tab) : ∀ (d f : Nat) (vs : List MV) (h : MHp), (callN defs T d f vs h).Kp h
  | 0, _, _, _ => trivial
  | d + 1, f, vs, h => by
    unfold callN
    split
    · exact trivial
    · split
      · exact Kp.rest (Kp.calm (kpSs (kpN defs T d) _ _ _) fun c h1 => Kp.endM)
      · exact trivial
end G
set_option Elab.async false
set_option linter.all false
set_option maxRecDepth 100000
set_option maxHeartbeats 1000000
/-! Behind a call that changed nothing of before. -/
namespace G
open PySem PySem.Spec PyProof.Rows L2
section
variable {Z : Stat} {W : WX} {ρ ρ' : Rho} {H H' : Hp} {σ : L2.St} {h h' : MHp}
mutual
theorem under_of (R : HR Z ρ h H) : ∀ (x : MV) (v : V), RV Z ρ H x v → x.under h.n = true
  | .non, _, _ => by simp [MV.under]
  | .bl _, _, _ => by simp [MV.under]
  | .int _, _, _ => by simp [MV.under]
  | .str _, _, _ => by simp [MV.under]
  | .cls _, _, _ => by simp [MV.under]
  | .ref m, _, r => by
    simp only [RV] at r
    obtain ⟨a, _, e⟩ := r
    simp only [MV.under, Nat.blt_eq]
    exact R.lt e
  | .tup xs, _, r => by
    simp only [RV] at r
    obtain ⟨a, vs, _, _, r2⟩ := r
    simp only [MV.under]
    exact unders_of R xs vs r2
  | .frl xs, _, r => by
    simp only [RV] at r
    obtain ⟨a, vs, _, _, r2⟩ := r
    simp only [MV.under]
    exact unders_of R xs vs r2
  | .wrl xs, _, r => by
    simp only [RV] at r
    obtain ⟨a, vs, _, _, r2⟩ := r
    simp only [MV.under]
    exact unders_of R xs vs r2
  | .exc c fs, _, r => by
    simp only [RV] at r
    obtain ⟨a, d, fs', _, _, _, r2⟩ := r
    simp only [MV.under]
    exact underf_of R fs fs' r2
  | .frd _, _, r => by simp only [RV] at r
  | .obj _ _, _, r => by simp only [RV] at r
theorem unders_of (R : HR Z ρ h H) : ∀ (xs : List MV) (vs : List V), RVs Z ρ H xs vs → MV.unders h.n xs = true
  | [], _, _ => by simp [MV.unders]
  | x :: xs, _, r => by
    simp only [RVs] at r
    obtain ⟨v, t, _, r1, r2⟩ := r
    simp only [MV.unders, under_of R x v r1, unders_of R xs t r2, Bool.and_self]
theorem underf_of (R : HR Z ρ h H) : ∀ (xs : List (Nat × MV)) (vs : List (PySem.Str × V)), RVf Z ρ H xs vs → MV.underf h.n xs = true
  | [], _, _ => by simp [MV.underf]
  | (f, x) :: xs, _, r => by
    simp only [RVf] at r
    obtain ⟨v, t, _, r1, r2⟩ := r
    simp only [MV.underf, under_of R x v r1, underf_of R xs t r2, Bool.and_self]
end
/-- nothing of before was changed -/
structure Same0 (ρ ρ' : Rho) (n : Nat) : Prop where
  nm : ∀ m a, m < n → ρ'.nm m = some a → ρ.nm m = some a
  nl : ∀ a, NL ρ' a → NL ρ a
theorem FrlAt.back {K : PySem.W.Frag} {n : Nat} {a : Addr} {xs : List V} (S : Same0 ρ ρ' n) (h : FrlAt K ρ' H a xs) : FrlAt K ρ H a xs := h.elim (fun h => .inl ⟨h.1, S.nl _ h.2⟩) .inr
mutual
theorem rv_back {n : Nat} (S : Same0 ρ ρ' n) : ∀ (x : MV) (v : V), x.under n = true → RV Z ρ' H x v → RV Z ρ H x v
  | .non, _, _, r => by simpa only [RV] using r
  | .bl _, _, _, r => by simpa only [RV] using r
  | .int _, _, _, r => by simpa only [RV] using r
  | .str _, _, _, r => by simpa only [RV] using r
  | .cls _, _, _, r => by simpa only [RV] using r
  | .ref m, _, u, r => by
    simp only [RV] at r ⊢
    obtain ⟨a, h1, e⟩ := r
    simp only [MV.under, Nat.blt_eq] at u
    exact ⟨a, h1, S.nm m a u e⟩
  | .tup xs, _, u, r => by
    simp only [RV] at r ⊢
    obtain ⟨a, vs, h1, h2, r2⟩ := r
    exact ⟨a, vs, h1, h2, rvs_back S xs vs (by simpa only [MV.under] using u) r2⟩
  | .frl xs, _, u, r => by
    simp only [RV] at r ⊢
    obtain ⟨a, vs, h1, h2, r2⟩ := r
    exact ⟨a, vs, h1, ⟨h2.1, S.nl _ h2.2⟩, rvs_back S xs vs (by simpa only [MV.under] using u) r2⟩
  | .wrl xs, _, u, r => by
    simp only [RV] at r ⊢
    obtain ⟨a, vs, h1, h2, r2⟩ := r
    exact ⟨a, vs, h1, h2.back S, rvs_back S xs vs (by simpa only [MV.under] using u) r2⟩
  | .exc c fs, _, u, r => by
    simp only [RV] at r ⊢
    obtain ⟨a, d, fs', h1, h2, h3, r2⟩ := r
    exact ⟨a, d, fs', h1, h2, h3, rvf_back S fs fs' (by simpa only [MV.under] using u) r2⟩
  | .frd _, _, _, r => by simp only [RV] at r
  | .obj _ _, _, _, r => by simp only [RV] at r
theorem rvs_back {n : Nat} (S : Same0 ρ ρ' n) : ∀ (xs : List MV) (vs : List V), MV.unders n xs = true → RVs Z ρ' H xs vs → RVs Z ρ H xs vs
  | [], _, _, r => by simpa only [RVs] using r
  | x :: xs, _, u, r => by
    simp only [RVs] at r ⊢
    simp only [MV.unders, Bool.and_eq_true] at u
    obtain ⟨v, t, h1, r1, r2⟩ := r
    exact ⟨v, t, h1, rv_back S x v u.1 r1, rvs_back S xs t u.2 r2⟩
theorem rvf_back {n : Nat} (S : Same0 ρ ρ' n) : ∀ (xs : List (Nat × MV)) (vs : List (PySem.Str × V)), MV.underf n xs = true → RVf Z ρ' H xs vs → RVf Z ρ H xs vs
  | [], _, _, r => by simpa only [RVf] using r
  | (f, x) :: xs, _, u, r => by
    simp only [RVf] at r ⊢
    simp only [MV.underf, Bool.and_eq_true] at u
    obtain ⟨v, t, h1, r1, r2⟩ := r
    exact ⟨v, t, h1, rv_back S x v u.1 r1, rvf_back S xs t u.2 r2⟩
end
theorem same_of (R : HR Z ρ h H) (R' : HR Z ρ' h' H') (e : Ext ρ H ρ' H') (g : ∀ a, a < h.n → h'.get a = h.get a) : Same0 ρ ρ' h.n := by
  refine ⟨fun m a hm q => ?_, fun a k => ⟨fun z => ?_, fun m q l => ?_⟩⟩
  · obtain ⟨b, hb⟩ := R.tot m hm
    have := e.ro m b hb
    rw [q] at this
    cases this
    exact hb
  · obtain ⟨o, ho⟩ := R.hid a z
    exact k.1 (e.hd a o z ho).2
  · obtain ⟨o, ho⟩ := (R.lv m).mp l
    refine k.2 m (e.ro m a q) ((R'.lv m).mpr ⟨o, ?_⟩)
    rw [g m (R.lt q)]
    exact ho
theorem hr_back (R : HR Z ρ h H) (R' : HR Z ρ' h' H') (e : Ext ρ H ρ' H') (g : ∀ a, a < h.n → h'.get a = h.get a) : HR Z ρ h H' ∧ Ext ρ H ρ H' := by
  have S := same_of R R' e g
  refine ⟨⟨fun m o q => ?_, R.lv, R.inj, fun m a q => ?_, R.tot, fun a k => ?_⟩, ⟨fun _ _ q => q, e.im, fun a o q k => ⟨(e.fz a o q k).1, k⟩, fun a o k q => ⟨(e.hd a o k q).1, k⟩⟩⟩
  · obtain ⟨a0, ha0, ho0⟩ := R.ob m o q
    have hm := R.lt ha0
    obtain ⟨a, ha, ho⟩ := R'.ob m o (by rw [g m hm]; exact q)
    have hb := S.nm m a hm ha
    refine ⟨a, hb, ?_⟩
    cases o with
    | lst xs =>
      obtain ⟨vs, h1, h2⟩ := ho
      obtain ⟨vs0, _, h20⟩ := ho0
      exact ⟨vs, h1, rvs_back S xs vs (unders_of R xs vs0 h20) h2⟩
    | dic kvs => exact ho.elim
    | ins c fs =>
      obtain ⟨dx, fs', h1, h2⟩ := ho
      obtain ⟨dx0, fs0, _, h20⟩ := ho0
      exact ⟨dx, fs', h1, rvf_back S fs fs' (underf_of R fs fs0 h20) h2⟩
  · have hm := R.dom m a q
    exact ⟨hm.1, (R'.dom m a (e.ro m a q)).2.1, hm.2.2⟩
  · obtain ⟨o, ho⟩ := R.hid a k
    exact ⟨o, (e.hd a o k ho).1⟩
/-- what the call's end takes back was never needed -/
theorem post_unrest {r : R MV} {Q : VK} (R : HR Z ρ h H) (k : r.Kp h.mark) (p : Post Z W ρ H σ (r.rest h) fun v _ ρ' H' => ∀ vv, RV Z ρ' H' v vv → Q vv H') : Post Z W ρ H σ r fun v _ ρ' H' => ∀ vv, RV Z ρ' H' v vv → Q vv H' := by
  cases r with
  | no => exact p
  | ok v h' =>
    intro ρ' H' e R' vv rv
    have p' : Post Z W ρ H σ (if h.n ≤ h'.m ∧ v.under h.n = true then G.R.ok v h else G.R.ok v (h'.unmark h.m)) (fun v _ ρ' H' => ∀ vv, RV Z ρ' H' v vv → Q vv H') := p
    by_cases hc : h.n ≤ h'.m ∧ v.under h.n = true
    · rw [if_pos hc] at p'
      have g : ∀ a, a < h.n → h'.get a = h.get a := fun a ha => k.g a ha (Nat.lt_of_lt_of_le ha hc.1)
      obtain ⟨r2, e2⟩ := hr_back R R' e g
      exact p' ρ H' e2 r2 vv (rv_back (same_of R R' e g) v vv hc.2 rv)
    · rw [if_neg hc] at p'
      exact p' ρ' H' e (R'.mark (fun _ => rfl) rfl) vv rv
  | ex v h' =>
    intro ρ' H' cls d e R' x
    have p' : Post Z W ρ H σ (if h.n ≤ h'.m ∧ v.under h.n = true then G.R.ex v h else G.R.ex v (h'.unmark h.m)) (fun v _ ρ' H' => ∀ vv, RV Z ρ' H' v vv → Q vv H') := p
    by_cases hc : h.n ≤ h'.m ∧ v.under h.n = true
    · rw [if_pos hc] at p'
      have g : ∀ a, a < h.n → h'.get a = h.get a := fun a ha => k.g a ha (Nat.lt_of_lt_of_le ha hc.1)
      obtain ⟨r2, e2⟩ := hr_back R R' e g
      obtain ⟨c, fs, dd, fs', rfl, h1, h2, h3, h4⟩ := x
      exact p' ρ H' cls d e2 r2 ⟨c, fs, dd, fs', rfl, h1, h2, h3, rvf_back (same_of R R' e g) fs fs' (by simpa only [MV.under] using hc.2) h4⟩
    · rw [if_neg hc] at p'
      exact p' ρ' H' cls d e (R'.mark (fun _ => rfl) rfl) x
end
end G
set_option Elab.async false
set_option linter.all false
set_option maxRecDepth 100000
set_option maxHeartbeats 4000000
/-! Defs, so many calls deep. -/
namespace G
open PySem PySem.Spec PyProof.Rows L2
/-- a def as the text has it -/
structure DefC (T : CT) (P : Program) (w : World) (K : PySem.W.Frag) (mg : PySem.Str → Option Value) (x : PySem.Str) (df : Df) (fa : Addr) (fd : FuncData) (ps : List PySem.Str) : Prop where
  ex : ∃ (nm qual : PySem.Str) (params : Arguments) (body : List Stmt) (scope : Scope) (N : List PySem.Str), FunD K nm qual params body scope [] [] fa fd ∧ FnScope N ps scope ∧ okSs T ⟨N, scope, scope⟩ df.body body = true ∧ df.ns = N.length
  np : df.np = ps.length
  mg : mg x = some (.ref fa)
  kp : PySem.W.keepIn K (.ref fa) = true
  bd : Binds K fd ps []
/-- what a law's text gives -/
structure Law (Z : Stat) (T : CT) (Tb : Tab) (defs : List Df) (P : Program) (w : World) (mg : PySem.Str → Option Value) (base : Heap) : Prop where
  fns : ∀ (f : Nat) (x : PySem.Str), T.fns[f]? = some x → ∃ (df : Df) (fa : Addr) (fd : FuncData) (ps : List PySem.Str), defs[f]? = some df ∧ DefC T P w Z.K mg x df fa fd ps
  blt : ∀ x ∈ bltNames, mg x = none
  err : ∀ (k : Nat) (x pn : PySem.Str), T.ens[k]? = some (x, pn) → ErrC0 Z Tb.efs P w Z.K mg base k x pn
  fld : FldC0 Z Tb.nx Tb.nf Z.K
  fnm : ∀ (f : Nat) (x : PySem.Str), T.fnm[f]? = some x → x = Z.fn f
  isc : IsC0 Z Tb.nx Tb.sub Tb.subB Z.K
section
variable {Z : Stat} {T : CT} {Tb : Tab} {defs : List Df} {P : Program} {w : World} {mg : PySem.Str → Option Value} {base : Heap}
theorem fr_start {ρ : Rho} {H : Hp} {mvs : List MV} {vs : List V} {N : List PySem.Str} (r : RVs Z ρ H mvs vs) : FR Z ρ H (startFr mvs N.length) (L2.start N vs) := by
  have hl := r.length
  refine ⟨by unfold startFr L2.start; simp [hl], fun i v e => ?_⟩
  unfold startFr Fr.at at e
  unfold L2.start
  by_cases hi : i < mvs.length
  · rw [List.getElem?_append_left (by simpa using hi)] at e
    rw [List.getElem?_append_left (by simpa [← hl] using hi)]
    rw [List.getElem?_map] at e ⊢
    cases q : mvs[i]? with
    | none => rw [q] at e; cases e
    | some y =>
      rw [q] at e
      obtain ⟨w, h1, h2⟩ := r.get q
      have e : y = v := Option.some.inj e
      subst e
      exact ⟨w, by rw [h1]; rfl, h2⟩
  · rw [List.getElem?_append_right (by simpa using Nat.le_of_not_lt hi)] at e
    rw [List.getElem?_replicate] at e
    split at e
    · rename_i q
      split at q <;> cases q <;> cases e
    · cases e
theorem post_end {ρ : Rho} {H : Hp} {x : R Ctl} {Q : VK} {E : XK} (p : Post Z (fun cls d _ H => E cls d H) ρ H [] (x.calm endM) fun v _ ρ' H' => ∀ vv, RV Z ρ' H' v vv → Q vv H') :
    PostC Z (fun cls d _ H => E cls d H) ρ H { nx := fun _ H' => Q .non H', rt := Q } x := by
  cases x with
  | no => exact p
  | ex e h => exact p
  | ok c h =>
    intro ρ1 H1 e1 r1
    cases c with
    | nx fr => exact fun σ F => p ρ1 H1 e1 r1 _ RV.mkNon
    | rt v => exact fun vv rv => p ρ1 H1 e1 r1 vv rv
    | bk fr => exact p.elim
    | ct fr => exact p.elim
    | xx e fr => exact fun σ cls d F x => p ρ1 H1 cls d e1 r1 x
theorem callN_len {f : Nat} {df : Df} (h : defs[f]? = some df) : ∀ (d : Nat) (vs : List MV) (hp : MHp), vs.length ≠ df.np → callN defs Tb d f vs hp = .no
  | 0, _, _, _ => rfl
  | d + 1, vs, hp, hn => by
    show (match defs[f]? with | none => R.no | some df => if vs.length = df.np then _ else R.no) = R.no
    rw [h]
    exact if_neg hn
theorem fn_ok (L : Law Z T Tb defs P w mg base) : ∀ (d f : Nat) (x : PySem.Str) (df : Df) (fa : Addr) (fd : FuncData) (ps : List PySem.Str), defs[f]? = some df → DefC T P w Z.K mg x df fa fd ps → FnOk P w Z.K mg base (L2.CX P w) (d + 4) fa fd ps (spC Z df.np (callN defs Tb d f))
  | 0, f, x, df, fa, fd, ps, h1, DC => ⟨fun vs H Q E ⟨h, _⟩ => by rw [h, DC.np], fun A outer s H args us vs Q E _ _ _ _ ⟨_, _, _, _, _, _, p⟩ => p.elim⟩
  | d + 1, f, x, df, fa, fd, ps, h1, DC => by
    obtain ⟨nm, qual, params, body, scope, N, FD, S, hok, hns⟩ := DC.ex
    refine FD.ok S (fun vs H Q E ⟨h, _⟩ => by rw [h, DC.np]) fun cdv A outer s H vs Q E hr hsp => ?_
    obtain ⟨hl, ρ, h, mvs, R, rs, p⟩ := hsp
    have O : OkX Z T (dsOf defs Tb d) (fun cls d _ H => E cls d H) ⟨N, scope, scope⟩ (cxOf (L2.CX P w) P w Z.K mg base N qual scope fa cdv A outer s H E) := {
      K := rfl
      hN := rfl
      nd := S.nd
      sc := rfl
      kd := S.kind
      hu := by have := hr.un; show (A.deeper _).units + 65 < cLine; omega
      calm := rfl
      fn := fun _ _ => rfl
      tk := takes_of rfl rfl rfl rfl
      room2 := hr.mono (by omega)
      blt := L.blt
      call := fun g y hy => by
        obtain ⟨df2, fa2, fd2, ps2, g1, DC2⟩ := L.fns g y hy
        exact ⟨d + 4, df2.np, fa2, fd2, ps2, hr, fn_ok L d g y df2 fa2 fd2 ps2 g1 DC2, DC2.mg, DC2.kp, DC2.bd, fun vs hp hn => callN_len g1 d vs hp hn⟩
      err := L.err
      fld := L.fld
      fnm := L.fnm
      isc := L.isc }
    refine ⟨_, sndSs df.body O (passes_of rfl) body hok, ρ, startFr mvs df.ns, h.mark, by rw [hns]; exact fr_start rs, R.mark (fun _ => rfl) rfl, ?_⟩
    have p2 : Post Z (fun cls d _ H => E cls d H) ρ H [] (match defs[f]? with | none => G.R.no | some df => if mvs.length = df.np then ((exSs (dsOf defs Tb d) df.body (startFr mvs df.ns) h.mark).calm endM).rest h else G.R.no) (fun v _ ρ' H' => ∀ vv, RV Z ρ' H' v vv → Q vv H') := p
    rw [h1] at p2
    have hml : mvs.length = df.np := by rw [rs.length]; exact hl
    dsimp only at p2
    rw [if_pos hml] at p2
    exact post_end (post_unrest R (Kp.calm (kpSs (kpN defs Tb d) _ _ _) fun c h1 => Kp.endM) p2)
end
end G
set_option Elab.async false
set_option linter.all false
set_option maxRecDepth 100000
set_option maxHeartbeats 4000000
/-! The head's facts as one check. -/
namespace G
open PySem PySem.Spec PyProof.Rows L2
def oexB (K : PySem.W.Frag) (C : Addr) (tl : List Value) (newId : String) : Bool := (match K.lookup C with
  | some ⟨.type "type", _, .cls cd, sl⟩ => (match cd.mro, sl.toList with
    | .ref C' :: bm, [_, _, _, _, some (.builtin n), _] => C' == C && n == newId && !cd.hasDel && cd.hasDict && PySem.GX.refsT tl bm
    | _, _ => false)
  | _ => false) && (He.eqO (PySem.W.findIn K (.ref C) "__setattr__") (some (some (.builtin "object.__setattr__"))) && PySem.W.keepIn K (.ref C))
theorem oexB_ok {K : PySem.W.Frag} {C : Addr} {tl : List Value} {newId : String} (h : oexB K C tl newId = true) : OexT K C tl newId := by
  unfold oexB at h
  obtain ⟨q, h2⟩ := He.ba h
  obtain ⟨h3, h4⟩ := He.ba h2
  refine ⟨?_, He.eqO_ok h3, h4⟩
  split at q
  · rename_i dd cd sl ho
    split at q
    · rename_i C' bm k0 k1 k2 k3 n k5 hm hs
      simp only [Bool.and_eq_true, beq_iff_eq, Bool.not_eq_true'] at q
      obtain ⟨⟨⟨⟨rfl, rfl⟩, hdel⟩, hd⟩, ht⟩ := q
      obtain ⟨nm, bs, mro, ns, qn, hdd, sn, sub, ab, col, del⟩ := cd
      dsimp only at hm hdel hd
      subst hm hdel hd
      have hsl : sl = #[k0, k1, k2, k3, some (.builtin n), k5] := by
        obtain ⟨l⟩ := sl
        simp only at hs
        rw [hs]
      subst hsl
      exact ⟨nm, qn, ns, bs, bm, sn, sub, ab, col, dd, k0, k1, k2, k3, k5, ho, ht⟩
    · cases q
  · cases q
def excB (K : PySem.W.Frag) (D : Addr) : Bool := He.eqO (PySem.W.findIn K (.ref D) "__getattribute__") (some (some (.builtin "BaseException.__getattribute__"))) && (He.eqO (PySem.W.findIn K (.ref D) "__getattr__") (some none) &&
  (decide (PySem.W.subIn K (.ref D) (.type "BaseException") = some true) && (PySem.W.hasDictIn K D && (He.eqO (PySem.W.findIn K (.ref D) "__class__") (some (some (.builtin "object.__class__"))) &&
  (He.eqO (PySem.W.specialIn K (.builtin "object.__class__") "__get__") (some (some (.builtin "getset_descriptor.__get__"))) && (decide (PySem.W.takesIn K (.builtin "object.__class__") = some true) && decide (PySem.W.mroIn K D (.type "object") = some true)))))))
theorem excB_ok {K : PySem.W.Frag} {D : Addr} (h : excB K D = true) : L2.ExcC K D := by
  obtain ⟨h1, h⟩ := He.ba h
  obtain ⟨h2, h⟩ := He.ba h
  obtain ⟨h3, h⟩ := He.ba h
  obtain ⟨h4, h⟩ := He.ba h
  obtain ⟨h5, h⟩ := He.ba h
  obtain ⟨h6, h⟩ := He.ba h
  obtain ⟨h7, h8⟩ := He.ba h
  exact ⟨He.eqO_ok h1, He.eqO_ok h2, of_decide_eq_true h3, h4, He.eqO_ok h5, He.eqO_ok h6, of_decide_eq_true h7, of_decide_eq_true h8⟩
/-- the built-in error below an own class -/
def tlOf : Nat → List Value × String
  | 0 => ([.type "ValueError", .type "Exception", .type "BaseException", .type "object"], "ValueError.__new__")
  | 1 => ([.type "LookupError", .type "Exception", .type "BaseException", .type "object"], "LookupError.__new__")
  | _ => ([.type "IndexError", .type "LookupError", .type "Exception", .type "BaseException", .type "object"], "IndexError.__new__")
theorem tlOf_ok (n : Nat) : ∃ B initId, PySem.GX.TlF (tlOf n).1 B (tlOf n).2 initId := match n with
  | 0 => ⟨_, _, PySem.GX.tlF_V⟩
  | 1 => ⟨_, _, PySem.GX.tlF_L⟩
  | _ + 2 => ⟨_, _, PySem.GX.tlF_I⟩
/-- an own error class: its name, its parameter, the built-in one below -/
structure ErD where
  name : PySem.Str
  pn : PySem.Str
  tl : Nat
def caOf (K : PySem.W.Frag) (es : List ErD) (c : Nat) : Addr := match es[c]? with
  | some e => He.ga K e.name
  | none => 0
def fnOf (fs : List PySem.Str) (f : Nat) : PySem.Str := (fs[f]?).getD "?"
def erB (K : PySem.W.Frag) (fs : List PySem.Str) (e : ErD) : Bool :=
  let C := He.ga K e.name
  (He.Fa.glo e.name).ok K && (oexB K C (tlOf e.tl).1 (tlOf e.tl).2 && (He.eqO (PySem.W.findIn K (.ref C) "__init__") (some (some (.ref (He.ma K C "__init__")))) && (decide (PySem.W.typeIn K (.ref (He.ma K C "__init__")) = some (.type "function")) &&
    (xfB K C && (fs.all (fun f => He.eqO (PySem.W.findIn K (.ref C) f) (some none)) && excB K C)))))
def kitB2 (K : PySem.W.Frag) (es : List ErD) (sub subB : Nat → Nat → Bool) : Bool :=
  (List.range es.length).all fun c => ((List.range es.length).all fun d => decide (PySem.W.kitOne K (.ref (caOf K es c)) (.ref (caOf K es d)) = some (sub c d))) && ((List.range 3).all fun n => decide (PySem.W.kitOne K (.ref (caOf K es c)) (.type (btName n)) = some (subB c n)))
def chkB (es : List ErD) (fns fs : List PySem.Str) (Tb : Tab) (K : PySem.W.Frag) : Bool :=
  (bltNames.all fun x => (He.Fa.free x).ok K) && ((fns.all fun x => (He.Fa.glo x).ok K) && ((es.all fun e => erB K fs e) && kitB2 K es Tb.sub Tb.subB))
/-- what the end leans on -/
def hookG (n : Nat) (fn : List He.DefD) (c : PySem.W.Frag → Bool) : PySem.W.Hook where
  α := He.AlD × Bool
  obs := fun s => let K := He.frG s.heap.get? (He.asD s.heap.get? n); (He.obsD [] fn K, c K)
  val := fun _ => (He.valD fn, true)
  says := fun _ h => ∃ K : PySem.W.Frag, K.In h ∧ He.SaysD [] fn K ∧ c K = true
  of := fun _ s e => ⟨He.frG s.heap.get? (He.asD s.heap.get? n), He.frG_in, congrArg (fun z : He.AlD × Bool => z.1) e, congrArg (fun z : He.AlD × Bool => z.2) e⟩
  keeps := fun _ _ _ ⟨K, hK, c⟩ k => ⟨K, PySem.W.Frag.In.keeps hK k, c⟩
def obsG (n : Nat) (fn : List He.DefD) (c : PySem.W.Frag → Bool) (g : Addr → Option Obj) : He.AlD × Bool := let K := He.frG g (He.asD g n); (He.obsD [] fn K, c K)
theorem obsG_eq {n : Nat} {fn : List He.DefD} {c : PySem.W.Frag → Bool} {g : Addr → Option Obj} {s : Shared} (h : ∀ a, g a = s.heap.get? a) : obsG n fn c g = (hookG n fn c).obs s := by
  have e : g = s.heap.get? := funext h
  rw [e] <;> rfl
section
variable {es : List ErD} {fns fs : List PySem.Str} {Tb : Tab} {K : PySem.W.Frag}
theorem range_all {n : Nat} {p : Nat → Bool} (h : (List.range n).all p = true) {i : Nat} (hi : i < n) : p i = true := List.all_eq_true.mp h i (List.mem_range.mpr hi)
theorem chk_isc (h : chkB es fns fs Tb K = true) (hn : Tb.nx = es.length) {sv : Stat} (hk : sv.ca = caOf K es) : IsC0 sv Tb.nx Tb.sub Tb.subB K := by
  obtain ⟨_, h⟩ := He.ba h
  obtain ⟨_, h⟩ := He.ba h
  obtain ⟨h1, h2⟩ := He.ba h
  rw [hn]
  have er : ∀ c, c < es.length → excB K (caOf K es c) = true := fun c hc => by
    have := List.all_eq_true.mp h1 es[c] (List.getElem_mem hc)
    unfold erB at this
    obtain ⟨_, q⟩ := He.ba this
    obtain ⟨_, q⟩ := He.ba q
    obtain ⟨_, q⟩ := He.ba q
    obtain ⟨_, q⟩ := He.ba q
    obtain ⟨_, q⟩ := He.ba q
    obtain ⟨_, q⟩ := He.ba q
    unfold caOf
    rw [List.getElem?_eq_getElem hc]
    exact q
  refine ⟨fun c hc => by rw [hk]; exact excB_ok (er c hc), fun c d hc hd => ?_, fun c n hc hn => ?_⟩
  · rw [hk]
    obtain ⟨q, _⟩ := He.ba (range_all h2 hc)
    exact of_decide_eq_true (range_all q hd)
  · rw [hk]
    obtain ⟨_, q⟩ := He.ba (range_all h2 hc)
    exact of_decide_eq_true (range_all q hn)
theorem chk_fld (h : chkB es fns fs Tb K = true) (hn : Tb.nx = es.length) (hf : Tb.nf = fs.length) (hd : fs.Nodup) (hq : ("?" : PySem.Str) ∉ fs) {sv : Stat} (hk : sv.ca = caOf K es) (hs : sv.fn = fnOf fs) : FldC0 sv Tb.nx Tb.nf K := by
  obtain ⟨_, h⟩ := He.ba h
  obtain ⟨_, h⟩ := He.ba h
  obtain ⟨h1, h2⟩ := He.ba h
  rw [hn, hf]
  have er : ∀ c, c < es.length → xfB K (caOf K es c) = true ∧ fs.all (fun f => He.eqO (PySem.W.findIn K (.ref (caOf K es c)) f) (some none)) = true := fun c hc => by
    have := List.all_eq_true.mp h1 es[c] (List.getElem_mem hc)
    unfold erB at this
    obtain ⟨_, q⟩ := He.ba this
    obtain ⟨_, q⟩ := He.ba q
    obtain ⟨_, q⟩ := He.ba q
    obtain ⟨_, q⟩ := He.ba q
    obtain ⟨q1, q⟩ := He.ba q
    obtain ⟨q2, q⟩ := He.ba q
    unfold caOf
    rw [List.getElem?_eq_getElem hc]
    exact ⟨q1, q2⟩
  refine ⟨fun c hc => by rw [hk]; exact xfB_ok (er c hc).1, fun c f hc hf => ?_, fun f g hf e => ?_⟩
  · rw [hk, hs]
    unfold fnOf
    rw [List.getElem?_eq_getElem hf]
    exact He.eqO_ok (List.all_eq_true.mp (er c hc).2 _ (List.getElem_mem hf))
  · rw [hs] at e
    unfold fnOf at e
    rw [List.getElem?_eq_getElem hf] at e
    by_cases hg : g < fs.length
    · rw [List.getElem?_eq_getElem hg] at e
      exact (List.getElem_inj hd).mp e
    · rw [List.getElem?_eq_none (by omega)] at e
      exact absurd (show fs[f] = "?" from e) (fun z => hq (z ▸ List.getElem_mem hf))
end
end G
set_option Elab.async false
set_option linter.all false
set_option maxRecDepth 100000
set_option maxHeartbeats 4000000
/-! An own error class by the head's check. -/
namespace G
open PySem PySem.Spec PyProof.Rows L2
section
variable {es : List ErD} {fns fs : List PySem.Str} {Tb : Tab} {K : PySem.W.Frag} {Z : Stat} {P : Program} {w : World} {mg : PySem.Str → Option Value} {base h : Heap} {fd : FuncData} {nm qual : PySem.Str} {params : Arguments} {scope : Scope}
theorem spI_congr {C : Addr} {n : Nat} {f g : List V → List (PySem.Str × V)} (e : ∀ ws, f ws = g ws) : spI C n f = spI C n g := by rw [funext e]
theorem chk_er (hc : chkB es fns fs Tb K = true) {c : Nat} {e : ErD} (he : es[c]? = some e) : erB K fs e = true := by
  obtain ⟨_, h⟩ := He.ba hc
  obtain ⟨_, h⟩ := He.ba h
  obtain ⟨h1, h2⟩ := He.ba h
  exact List.all_eq_true.mp h1 e (List.mem_of_getElem? he)
theorem chk_free (hc : chkB es fns fs Tb K = true) (X : K.In h) (G : h.Ns mainGlobals mg) : ∀ x ∈ bltNames, mg x = none := fun x hx => by
  obtain ⟨h1, _⟩ := He.ba hc
  exact He.free_ok X G (List.all_eq_true.mp h1 x hx)
theorem chk_glo (hc : chkB es fns fs Tb K = true) (X : K.In h) (G : h.Ns mainGlobals mg) {f : Nat} {x : PySem.Str} (hx : fns[f]? = some x) : mg x = some (.ref (He.ga K x)) := by
  obtain ⟨_, h1⟩ := He.ba hc
  obtain ⟨h1, _⟩ := He.ba h1
  exact He.glo_ok X G (List.all_eq_true.mp h1 x (List.mem_of_getElem? hx))
theorem funD_kw {body : List Stmt} {f : Addr} {ps : List PySem.Str} {pn : PySem.Str} (F : FunD K nm qual params body scope [] [] f fd)
    (hb : ∀ (kV doc pm : Value) (an : Option Addr) (cdv ct : Value) (u0 u : Value), bindArgs (PySem.W.fnOf nm qual params body scope .none kV doc pm an cdv ct) ⟨[u0], [(pn, u)]⟩ = pure (ps.zip [u0, u])) : ∀ (s' : Shared) (a : Addr) (u : Value), BindsTo s' fd ⟨[.ref a], [(pn, u)]⟩ (ps.zip [.ref a, u]) := by
  obtain ⟨oc, od, dV, kV, doc, pm, an, cdv, ct, osl, rfl, lk, hcd, hD, hK⟩ := F.ex
  rcases hD with ⟨_, rfl⟩ | ⟨e, _⟩
  · exact fun s' a u => .of_eq (hb kV doc pm an cdv ct (.ref a) u)
  · exact absurd rfl e
/-- a class whose __init__ has one parameter -/
theorem err2 {c f cf : Nat} {e : ErD} {code : List Nat} {cs : PySem.Str} {j : Nat} {p1 p2 p3 p4 q1 q2 q3 q4 : Pos} (hc : chkB es fns fs Tb K = true) (X : K.In h) (G : h.Ns mainGlobals mg) (he : es[c]? = some e) (hk : Z.ca = caOf K es) (hs : Z.fn = fnOf fs)
    (hef : Tb.efs c = [(f, .inl 0), (cf, .inr (.str code))]) (hf : f < fs.length) (hcf : cf < fs.length) (hcode : cs = S8 code) (hok : okS code = true)
    (FD : FunD K nm qual params [.Assign [.Attribute (.Name "self" p1) (fnOf fs cf) p2] (.Constant (.str cs) j p3) p4, .Assign [.Attribute (.Name "self" q1) (fnOf fs f) q2] (.Name e.pn q3) q4] scope [] [] (He.ma K (He.ga K e.name) "__init__") fd)
    (S : FnScope ["self", e.pn] ["self", e.pn] scope) (v1 : scope.names.lookup ("self" : PySem.Str) = some .local) (v2 : scope.names.lookup e.pn = some .local) (d1 : (e.pn == ("__debug__" : PySem.Str)) = false) (d2 : (e.pn == ("__classdict__" : PySem.Str)) = false)
    (hb : ∀ (kV doc pm : Value) (an : Option Addr) (cdv ct : Value) (u0 u : Value), bindArgs (PySem.W.fnOf nm qual params [.Assign [.Attribute (.Name "self" p1) (fnOf fs cf) p2] (.Constant (.str cs) j p3) p4, .Assign [.Attribute (.Name "self" q1) (fnOf fs f) q2] (.Name e.pn q3) q4] scope .none kV doc pm an cdv ct) ⟨[u0], [(e.pn, u)]⟩ = pure ([("self" : PySem.Str), e.pn].zip [u0, u]))
    (hb2 : ∀ (kV doc pm : Value) (an : Option Addr) (cdv ct : Value) (us : List Value), us.length = 2 → bindArgs (PySem.W.fnOf nm qual params [.Assign [.Attribute (.Name "self" p1) (fnOf fs cf) p2] (.Constant (.str cs) j p3) p4, .Assign [.Attribute (.Name "self" q1) (fnOf fs f) q2] (.Name e.pn q3) q4] scope .none kV doc pm an cdv ct) ⟨us, []⟩ = pure ([("self" : PySem.Str), e.pn].zip us)) :
    ErrC0 Z Tb.efs P w K mg base c e.name e.pn := by
  have er := chk_er hc he
  unfold erB at er
  obtain ⟨g1, er⟩ := He.ba er
  obtain ⟨g2, er⟩ := He.ba er
  obtain ⟨g3, er⟩ := He.ba er
  obtain ⟨g4, er⟩ := He.ba er
  obtain ⟨g5, er⟩ := He.ba er
  obtain ⟨g6, g7⟩ := He.ba er
  have hca : Z.ca c = He.ga K e.name := by rw [hk]; unfold caOf; rw [he]
  obtain ⟨B, initId, TL⟩ := tlOf_ok e.tl
  have no : ∀ k, k < fs.length → PySem.W.findIn K (.ref (He.ga K e.name)) (fnOf fs k) = some none := fun k hk => by
    unfold fnOf
    rw [List.getElem?_eq_getElem hk]
    exact He.eqO_ok (List.all_eq_true.mp g6 _ (List.getElem_mem hk))
  have en : excN (Tb.efs c) = 1 := by rw [hef]; rfl
  have F := init2 (P := P) (w := w) (mg := mg) (base := base) (CX := L2.CX P w) (k := 0) TL (oexB_ok g2) (no cf hcf) (no f hf) FD S v1 v2 d1 d2
  have ec : spI (He.ga K e.name) 1 (fun ws => [(fnOf fs f, ws.headD .non), (fnOf fs cf, .str cs)]) = spI (Z.ca c) (excN (Tb.efs c)) (fsV Z (Tb.efs c)) := by
    rw [hca, en, hef]
    refine spI_congr fun ws => ?_
    unfold fsV
    simp only [List.map_cons, List.map_nil, fsV1, hs, hcode]
    cases ws <;> rfl
  rw [ec] at F
  refine ⟨⟨_, B, _, initId, _, fd, _, TL, by rw [hca]; exact oexB_ok g2, by rw [hca]; exact He.eqO_ok g3, of_decide_eq_true g4, F, FD.bindsN hb2, by rw [en]; rfl, fun _ s' a u _ => funD_kw FD hb s' a u⟩, ?_, ?_, by rw [en]; exact Nat.le_refl _⟩
  · rw [hca]
    exact He.glo_ok X G g1
  · rw [hef]
    simp [efsOk, hok]
/-- .. no parameter -/
theorem err1 {c cf : Nat} {e : ErD} {code : List Nat} {cs : PySem.Str} {j : Nat} {p1 p2 p3 p4 : Pos} (hc : chkB es fns fs Tb K = true) (X : K.In h) (G : h.Ns mainGlobals mg) (he : es[c]? = some e) (hk : Z.ca = caOf K es) (hs : Z.fn = fnOf fs)
    (hef : Tb.efs c = [(cf, .inr (.str code))]) (hcf : cf < fs.length) (hcode : cs = S8 code) (hok : okS code = true)
    (FD : FunD K nm qual params [.Assign [.Attribute (.Name "self" p1) (fnOf fs cf) p2] (.Constant (.str cs) j p3) p4] scope [] [] (He.ma K (He.ga K e.name) "__init__") fd)
    (S : FnScope ["self"] ["self"] scope) (v1 : scope.names.lookup ("self" : PySem.Str) = some .local)
    (hb2 : ∀ (kV doc pm : Value) (an : Option Addr) (cdv ct : Value) (us : List Value), us.length = 1 → bindArgs (PySem.W.fnOf nm qual params [.Assign [.Attribute (.Name "self" p1) (fnOf fs cf) p2] (.Constant (.str cs) j p3) p4] scope .none kV doc pm an cdv ct) ⟨us, []⟩ = pure ([("self" : PySem.Str)].zip us)) :
    ErrC0 Z Tb.efs P w K mg base c e.name e.pn := by
  have er := chk_er hc he
  unfold erB at er
  obtain ⟨g1, er⟩ := He.ba er
  obtain ⟨g2, er⟩ := He.ba er
  obtain ⟨g3, er⟩ := He.ba er
  obtain ⟨g4, er⟩ := He.ba er
  obtain ⟨g5, er⟩ := He.ba er
  obtain ⟨g6, g7⟩ := He.ba er
  have hca : Z.ca c = He.ga K e.name := by rw [hk]; unfold caOf; rw [he]
  obtain ⟨B, initId, TL⟩ := tlOf_ok e.tl
  have no : ∀ k, k < fs.length → PySem.W.findIn K (.ref (He.ga K e.name)) (fnOf fs k) = some none := fun k hk => by
    unfold fnOf
    rw [List.getElem?_eq_getElem hk]
    exact He.eqO_ok (List.all_eq_true.mp g6 _ (List.getElem_mem hk))
  have en : excN (Tb.efs c) = 0 := by rw [hef]; rfl
  have F := init1 (P := P) (w := w) (mg := mg) (base := base) (CX := L2.CX P w) (k := 0) TL (oexB_ok g2) (no cf hcf) FD S v1
  have ec : spI (He.ga K e.name) 0 (fun _ => [(fnOf fs cf, .str cs)]) = spI (Z.ca c) (excN (Tb.efs c)) (fsV Z (Tb.efs c)) := by
    rw [hca, en, hef]
    refine spI_congr fun ws => ?_
    unfold fsV
    simp only [List.map_cons, List.map_nil, fsV1, hs, hcode]
  rw [ec] at F
  refine ⟨⟨_, B, _, initId, _, fd, _, TL, by rw [hca]; exact oexB_ok g2, by rw [hca]; exact He.eqO_ok g3, of_decide_eq_true g4, F, FD.bindsN hb2, by rw [en]; rfl, fun z => by rw [en] at z; cases z⟩, ?_, ?_, by rw [en]; exact Nat.zero_le _⟩
  · rw [hca]
    exact He.glo_ok X G g1
  · rw [hef]
    simp [efsOk, hok]
end
end G
set_option Elab.async false
set_option linter.all false
set_option maxRecDepth 100000
set_option maxHeartbeats 1000000
/-! The law's own def. -/
namespace G
open PySem PySem.Spec PyProof.Rows L2
/-- the law's promise -/
def spL (K : PySem.W.Frag) : Sp := fun vs H Q _ => ∃ (a : Addr) (ns : List Int), vs = [.ref a] ∧ ns.length ≤ 63 ∧ FrlAt K noRho H a (ns.map V.int) ∧ ∀ H', Q (.bl true) H'
theorem frl_of {K : PySem.W.Frag} {H : Hp} {a : Addr} {xs : List V} (hO : Only H) (hS : SqL K H a xs) : FrlAt K noRho H a xs := by
  rcases hS with (h | ⟨o, h⟩) | h
  · rcases hO a with q | ⟨o, xs, q⟩
    · rw [q] at h; cases h
    · rw [q] at h; cases h
  · exact .inr (.inl ⟨o, h⟩)
  · exact .inr (.inr h)
theorem rvs_ints {Z : Stat} {ρ : Rho} {H : Hp} : ∀ ns : List Int, RVs Z ρ H (ns.map MV.int) (ns.map V.int)
  | [] => by simp only [List.map_nil, RVs]
  | j :: js => by simp only [List.map_cons, RVs]; exact ⟨_, _, rfl, RV.mkInt j, rvs_ints js⟩
theorem hr_empty {Z : Stat} {H : Hp} : HR Z noRho MHp.empty H :=
  ⟨fun m o e => absurd (MHp.get_lt e) (Nat.not_lt_zero _), fun m => ⟨fun z => z.elim, fun ⟨o, e⟩ => absurd (MHp.get_lt e) (Nat.not_lt_zero _)⟩, fun _ _ _ e _ => (by cases e), fun _ _ e => (by cases e), fun _ e => absurd e (Nat.not_lt_zero _), fun _ e => e.elim⟩
theorem law_ok {Z : Stat} {T : CT} {Tb : Tab} {defs : List Df} {P : Program} {w : World} {mg : PySem.Str → Option Value} {base : Heap} {d f : Nat} {x y : PySem.Str} {df : Df} {fa : Addr} {fd : FuncData}
    (L : Law Z T Tb defs P w mg base) (h1 : defs[f]? = some df) (DC : DefC T P w Z.K mg x df fa fd [y])
    (run : ∀ ns : List Int, ns.length ≤ 63 → ∃ h', callN defs Tb d f [.wrl (ns.map .int)] MHp.empty = .ok (.bl true) h') :
    FnOk P w Z.K mg base (L2.CX P w) (d + 4) fa fd [y] (spL Z.K) := by
  have F := fn_ok L d f x df fa fd [y] h1 DC
  have np : df.np = 1 := DC.np
  have up : ∀ vs H Q E, spL Z.K vs H Q E → spC Z df.np (callN defs Tb d f) vs H Q E := by
    rintro vs H Q E ⟨a, ns, rfl, hl, hF, hQ⟩
    obtain ⟨h', e⟩ := run ns hl
    refine ⟨by rw [np]; rfl, noRho, MHp.empty, [.wrl (ns.map .int)], hr_empty, RVs.one ?_, ?_⟩
    · simp only [RV]
      exact ⟨a, ns.map V.int, rfl, hF, rvs_ints ns⟩
    · rw [e]
      intro ρ2 H2 _ _ vv rv
      rw [rv.bl]
      exact hQ H2
  exact ⟨fun vs H Q E h => F.len vs H Q E (up vs H Q E h), fun A outer s H args us vs Q E hr he hb r h => F.run A outer s H args us vs Q E hr he hb r (up vs H Q E h)⟩
end G
set_option Elab.async false
set_option linter.all false
set_option maxRecDepth 100000
set_option maxHeartbeats 0
namespace K61
open PySem PySem.Spec PyProof.Rows L2 G
def top (i : Nat) : Stmt := PySem.Challenge.pw_rubgrove_k61_error_classes.main.body.getD i (.Pass ⟨0, 0, 0, 0⟩)
/-- a class's first def -/
def ini (i : Nat) : Stmt := match top i with
  | .ClassDef _ _ _ body _ _ _ _ _ _ _ => body.getD 0 (.Pass ⟨0, 0, 0, 0⟩)
  | _ => .Pass ⟨0, 0, 0, 0⟩
def b0 : Ss := (.cons (.asg (.v 1) (.bi true .list (.cons (.slice true (.var 0) .none (.some (.lit (.int 63)))) .nil))) (.cons (.asg (.v 2) (.bin true .add (.lit (.int 3847)) (.bin true .mul (.lit (.int 29)) (.bi true .len (.cons (.var 1) .nil))))) (.cons (.for_ (.v 3) (.val (.var 1)) (.cons (.asg (.v 2) (.bin true .mod (.bi true .int (.cons (.bin true .add (.bin true .add (.bin true .mul (.var 2) (.lit (.int 45161))) (.bin true .mod (.bi true .int (.cons (.var 3) .nil)) (.lit (.int 2147483423)))) (.lit (.int 11))) .nil)) (.lit (.int 2147483549)))) .nil)) (.cons (.ret (.some (.lst false (.cons (.var 1) (.cons (.lit (.int 0)) (.cons (.lit (.int 0)) (.cons (.var 2) .nil))))))) .nil))))
def n0 : List PySem.Str := ["_law_script", "_law_row", "_law_mark", "_law_cell"]
def p0 : List PySem.Str := ["_law_script"]
def df0 : Df := ⟨1, 4, b0⟩
def b1 : Ss := (.cons (.ite (.and (.cmp .eq (.idx (.var 0) (.lit (.int 2))) (.lit (.int 0))) (.cmp .lt (.idx (.var 0) (.lit (.int 1))) (.bi true .len (.cons (.idx (.var 0) (.lit (.int 0))) .nil)))) (.cons (.asg (.v 2) (.idx (.idx (.var 0) (.lit (.int 0))) (.idx (.var 0) (.lit (.int 1))))) (.cons (.asg (.sub (.var 0) (.lit (.int 1))) (.bin true .add (.idx (.var 0) (.lit (.int 1))) (.lit (.int 1)))) (.cons (.ite (.cmp .ge (.var 2) (.bin true .pow (.lit (.int 10)) (.lit (.int 18)))) (.cons (.asg (.sub (.var 0) (.lit (.int 2))) (.var 2)) .nil) (.cons (.asg (.v 4) (.bin true .add (.bin true .mul (.idx (.var 0) (.lit (.int 3))) (.lit (.int 40087))) (.bin true .mod (.bi true .int (.cons (.var 2) .nil)) (.lit (.int 1999999913))))) (.cons (.asg (.sub (.var 0) (.lit (.int 3))) (.bin true .mod (.bi true .int (.cons (.bin true .add (.var 4) (.idx (.var 0) (.lit (.int 1)))) .nil)) (.lit (.int 2147483629)))) .nil))) .nil))) .nil) (.cons (.ite (.cmp .gt (.idx (.var 0) (.lit (.int 2))) (.lit (.int 0))) (.cons (.asg (.v 3) (.bin true .mod (.bi true .int (.cons (.idx (.var 0) (.lit (.int 2))) .nil)) (.var 1))) (.cons (.asg (.sub (.var 0) (.lit (.int 2))) (.bin true .fdiv (.idx (.var 0) (.lit (.int 2))) (.var 1))) (.cons (.ret (.some (.var 3))) .nil))) .nil) (.cons (.asg (.sub (.var 0) (.lit (.int 3))) (.bin true .mod (.bi true .int (.cons (.bin true .add (.bin true .mul (.idx (.var 0) (.lit (.int 3))) (.lit (.int 48271033))) (.lit (.int 37))) .nil)) (.lit (.int 2147483629)))) (.cons (.ret (.some (.bin true .mod (.bi true .int (.cons (.bin true .fdiv (.bin true .mod (.bi true .int (.cons (.bin true .mul (.idx (.var 0) (.lit (.int 3))) (.idx (.var 0) (.lit (.int 3)))) .nil)) (.lit (.int 1000000021))) (.lit (.int 31))) .nil)) (.var 1)))) .nil))))
def n1 : List PySem.Str := ["_law_bag_z", "_law_many", "_law_cell", "_law_found", "_law_mixed"]
def p1 : List PySem.Str := ["_law_bag_z", "_law_many"]
def df1 : Df := ⟨2, 5, b1⟩
def b2 : Ss := (.cons (.ret (.some (.idx (.var 1) (.call 1 (.cons (.var 0) (.cons (.bi true .len (.cons (.var 1) .nil)) .nil)))))) .nil)
def n2 : List PySem.Str := ["_law_bag_z", "_law_things"]
def p2 : List PySem.Str := ["_law_bag_z", "_law_things"]
def df2 : Df := ⟨2, 2, b2⟩
def b3 : Ss := (.cons (.ite (.or (.cmp .is (.var 1) (.lit .non)) (.cmp .is (.var 0) (.lit .non))) (.cons (.ret (.some (.and (.cmp .is (.var 1) (.lit .non)) (.cmp .is (.var 0) (.lit .non))))) .nil) .nil) (.cons (.ite (.or (.isin (.var 1) [.bool]) (.isin (.var 0) [.bool])) (.cons (.ret (.some (.and (.isin (.var 1) [.bool]) (.and (.isin (.var 0) [.bool]) (.cmp .eq (.var 0) (.var 1)))))) .nil) .nil) (.cons (.ite (.isin (.var 1) [.int, .str]) (.cons (.ret (.some (.and (.isin (.var 0) [.int, .str]) (.and (.cmp .eq (.isin (.var 0) [.int]) (.isin (.var 1) [.int])) (.cmp .eq (.var 0) (.var 1)))))) .nil) .nil) (.cons (.ite (.isin (.var 1) [.dic]) (.cons (.ite (.or (.not (.isin (.var 0) [.dic])) (.cmp .ne .nope .nope)) (.cons (.ret (.some (.lit (.bl false)))) .nil) .nil) (.cons (.ret (.some (.bi true .all (.cons (.lc true (.call 3 (.cons (.idx (.var 0) (.var 2)) (.cons (.idx (.var 1) (.var 2)) .nil))) (.v 2) (.val (.var 1)) .none [2]) .nil)))) .nil)) .nil) (.cons (.ite (.or (.cmp .ne (.isin (.var 1) [.tup]) (.isin (.var 0) [.tup])) (.cmp .ne (.isin (.var 1) [.lst]) (.isin (.var 0) [.lst]))) (.cons (.ret (.some (.lit (.bl false)))) .nil) .nil) (.cons (.ret (.some (.and (.cmp .eq (.bi true .len (.cons (.var 0) .nil)) (.bi true .len (.cons (.var 1) .nil))) (.bi true .all (.cons (.lc true (.call 3 (.cons (.var 3) (.cons (.var 4) .nil))) (.tup (.cons (.v 3) (.cons (.v 4) .nil))) (.zip (.var 0) (.var 1)) .none [3, 4]) .nil))))) .nil))))))
def n3 : List PySem.Str := ["_law_found", "_law_due", "_law_key", "_law_one", "_law_two"]
def p3 : List PySem.Str := ["_law_found", "_law_due"]
def df3 : Df := ⟨2, 5, b3⟩
def b4 : Ss := (.cons (.ite (.cmp .isin (.fld (.var 0) 0) (.lst true (.cons (.lit (.str [66, 97, 100, 83, 104, 97, 112, 101])) (.cons (.lit (.str [80, 97, 114, 115, 101, 69, 114, 114, 111, 114])) .nil)))) (.cons (.ret (.some (.fld (.var 0) 2))) .nil) .nil) (.cons (.ite (.cmp .isin (.fld (.var 0) 0) (.lst true (.cons (.lit (.str [84, 111, 111, 77, 97, 110, 121])) (.cons (.lit (.str [70, 117, 108, 108])) .nil)))) (.cons (.ret (.some (.fld (.var 0) 4))) .nil) .nil) (.cons (.ite (.cmp .isin (.fld (.var 0) 0) (.lst true (.cons (.lit (.str [66, 97, 100, 78, 97, 109, 101])) (.cons (.lit (.str [68, 117, 112, 108, 105, 99, 97, 116, 101, 78, 97, 109, 101])) (.cons (.lit (.str [87, 114, 111, 110, 103, 75, 105, 110, 100])) (.cons (.lit (.str [85, 110, 107, 110, 111, 119, 110, 78, 97, 109, 101])) .nil)))))) (.cons (.ret (.some (.fld (.var 0) 5))) .nil) .nil) (.cons (.ite (.cmp .eq (.fld (.var 0) 0) (.lit (.str [66, 97, 100, 68, 111, 99, 117, 109, 101, 110, 116]))) (.cons (.ret (.some (.fld (.var 0) 1))) .nil) .nil) (.cons (.ite (.cmp .eq (.fld (.var 0) 0) (.lit (.str [66, 97, 100, 83, 99, 114, 105, 112, 116]))) (.cons (.ret (.some (.fld (.var 0) 3))) .nil) .nil) (.cons (.ite (.cmp .eq (.fld (.var 0) 0) (.lit (.str [66, 97, 100, 76, 105, 109, 105, 116]))) (.cons (.ret (.some (.fld (.var 0) 6))) .nil) .nil) (.cons (.ite (.cmp .eq (.fld (.var 0) 0) (.lit (.str [66, 97, 100, 67, 111, 109, 109, 97, 110, 100]))) (.cons (.ret (.some (.fld (.var 0) 7))) .nil) .nil) (.cons (.ite (.cmp .eq (.fld (.var 0) 0) (.lit (.str [85, 110, 107, 110, 111, 119, 110, 72, 97, 110, 100]))) (.cons (.ret (.some (.fld (.var 0) 9))) .nil) .nil) (.cons (.ret (.some (.ite (.cmp .eq (.fld (.var 0) 0) (.lit (.str [81, 117, 97, 114, 114, 101, 108]))) (.fld (.var 0) 8) (.lit .non)))) .nil)))))))))
def n4 : List PySem.Str := ["_law_e"]
def p4 : List PySem.Str := ["_law_e"]
def df4 : Df := ⟨1, 1, b4⟩
def b5 : Ss := (.cons (.asg (.v 2) (.lst true (.cons (.mkexc 1 (.cons (.var 0) .nil)) (.cons (.mkexc 2 (.cons (.var 1) .nil)) (.cons (.mkexc 3 (.cons (.var 0) .nil)) (.cons (.mkexc 4 (.cons (.var 0) .nil)) (.cons (.mkexc 5 (.cons (.var 1) .nil)) (.cons (.mkexc 6 (.cons (.var 0) .nil)) (.cons (.mkexc 7 (.cons (.var 1) .nil)) (.cons (.mkexc 8 (.cons (.var 0) .nil)) (.cons (.mkexc 9 (.cons (.var 0) .nil)) .nil))))))))))) (.cons (.ret (.some (.bin true .add (.var 2) (.lst true (.cons (.mkexc 10 (.cons (.var 1) .nil)) (.cons (.mkexc 11 (.cons (.var 0) .nil)) (.cons (.mkexc 12 (.cons (.var 0) .nil)) (.cons (.mkexc 14 (.cons (.var 1) .nil)) (.cons (.mkexc 15 (.cons (.var 0) .nil)) (.cons (.mkexc 16 .nil) .nil)))))))))) .nil))
def n5 : List PySem.Str := ["_law_n", "_law_m", "_law_found"]
def p5 : List PySem.Str := ["_law_n", "_law_m"]
def df5 : Df := ⟨2, 3, b5⟩
def b6 : Ss := (.cons (.asg (.v 2) (.lst true (.cons (.mkexc 1 (.cons (.var 0) .nil)) (.cons (.mkexc 2 (.cons (.var 1) .nil)) (.cons (.mkexc 3 (.cons (.var 0) .nil)) (.cons (.mkexc 4 (.cons (.var 0) .nil)) (.cons (.mkexc 5 (.cons (.var 1) .nil)) (.cons (.mkexc 6 (.cons (.var 0) .nil)) (.cons (.mkexc 7 (.cons (.var 1) .nil)) (.cons (.mkexc 8 (.cons (.var 0) .nil)) (.cons (.mkexc 9 (.cons (.var 0) .nil)) .nil))))))))))) (.cons (.ret (.some (.bin true .add (.var 2) (.lst true (.cons (.mkexc 10 (.cons (.var 1) .nil)) (.cons (.mkexc 11 (.cons (.var 0) .nil)) (.cons (.mkexc 12 (.cons (.var 0) .nil)) (.cons (.mkexc 14 (.cons (.var 1) .nil)) (.cons (.mkexc 15 (.cons (.var 0) .nil)) (.cons (.mkexc 16 .nil) .nil)))))))))) .nil))
def n6 : List PySem.Str := ["_law_n", "_law_m", "_law_found"]
def p6 : List PySem.Str := ["_law_n", "_law_m"]
def df6 : Df := ⟨2, 3, b6⟩
def b7 : Ss := (.cons (.asg (.v 1) (.lst true (.cons (.isin (.var 0) [(.cls 1)]) (.cons (.isin (.var 0) [(.cls 2)]) (.cons (.isin (.var 0) [(.cls 3)]) (.cons (.isin (.var 0) [(.cls 4)]) .nil)))))) (.cons (.asg (.v 1) (.bin true .add (.var 1) (.lst true (.cons (.isin (.var 0) [(.cls 5)]) (.cons (.isin (.var 0) [(.cls 6)]) (.cons (.isin (.var 0) [(.cls 7)]) (.cons (.isin (.var 0) [(.cls 8)]) .nil))))))) (.cons (.asg (.v 1) (.bin true .add (.var 1) (.lst true (.cons (.isin (.var 0) [(.cls 9)]) (.cons (.isin (.var 0) [(.cls 10)]) (.cons (.isin (.var 0) [(.cls 11)]) (.cons (.isin (.var 0) [(.cls 12)]) .nil))))))) (.cons (.ret (.some (.bin true .add (.var 1) (.lst true (.cons (.isin (.var 0) [(.cls 14)]) (.cons (.isin (.var 0) [(.cls 15)]) (.cons (.isin (.var 0) [(.cls 16)]) .nil))))))) .nil))))
def n7 : List PySem.Str := ["_law_e", "_law_found"]
def p7 : List PySem.Str := ["_law_e"]
def df7 : Df := ⟨1, 2, b7⟩
def b8 : Ss := (.cons (.asg (.v 1) (.call 0 (.cons (.var 0) .nil))) (.cons (.asg (.tup (.cons (.v 5) (.cons (.v 6) .nil))) (.tup (.cons (.call 2 (.cons (.var 1) (.cons (.lst true (.cons (.lit (.str [])) (.cons (.lit (.str [97])) (.cons (.lit .non) (.cons (.lit (.int 7)) (.cons (.tup (.cons (.lit (.int 0)) (.cons (.lit (.int 1)) .nil))) .nil)))))) .nil))) (.cons (.call 1 (.cons (.var 1) (.cons (.bin true .pow (.lit (.int 10)) (.lit (.int 9))) .nil))) .nil)))) (.cons (.asg (.v 2) (.lit (.str [66, 97, 100, 68, 111, 99, 117, 109, 101, 110, 116, 32, 66, 97, 100, 83, 104, 97, 112, 101, 32, 66, 97, 100, 83, 99, 114, 105, 112, 116, 32, 80, 97, 114, 115, 101, 69, 114, 114, 111, 114, 32, 84, 111, 111, 77, 97, 110, 121, 32, 66, 97, 100, 78, 97, 109, 101, 32, 68, 117, 112, 108, 105, 99, 97, 116, 101, 78, 97, 109, 101, 32, 87, 114, 111, 110, 103, 75, 105, 110, 100, 32, 70, 117, 108, 108, 32, 66, 97, 100, 76, 105, 109, 105, 116]))) (.cons (.asg (.v 2) (.split true (.bin true .add (.var 2) (.lit (.str [32, 66, 97, 100, 67, 111, 109, 109, 97, 110, 100, 32, 81, 117, 97, 114, 114, 101, 108, 32, 85, 110, 107, 110, 111, 119, 110, 78, 97, 109, 101, 32, 85, 110, 107, 110, 111, 119, 110, 72, 97, 110, 100, 32, 78, 111, 116, 104, 105, 110, 103, 76, 101, 102, 116]))) [66, 97, 100, 68, 111, 99, 117, 109, 101, 110, 116, 32, 66, 97, 100, 83, 104, 97, 112, 101, 32, 66, 97, 100, 83, 99, 114, 105, 112, 116, 32, 80, 97, 114, 115, 101, 69, 114, 114, 111, 114, 32, 84, 111, 111, 77, 97, 110, 121, 32, 66, 97, 100, 78, 97, 109, 101, 32, 68, 117, 112, 108, 105, 99, 97, 116, 101, 78, 97, 109, 101, 32, 87, 114, 111, 110, 103, 75, 105, 110, 100, 32, 70, 117, 108, 108, 32, 66, 97, 100, 76, 105, 109, 105, 116, 32, 66, 97, 100, 67, 111, 109, 109, 97, 110, 100, 32, 81, 117, 97, 114, 114, 101, 108, 32, 85, 110, 107, 110, 111, 119, 110, 78, 97, 109, 101, 32, 85, 110, 107, 110, 111, 119, 110, 72, 97, 110, 100, 32, 78, 111, 116, 104, 105, 110, 103, 76, 101, 102, 116] [32] [[66, 97, 100, 68, 111, 99, 117, 109, 101, 110, 116], [66, 97, 100, 83, 104, 97, 112, 101], [66, 97, 100, 83, 99, 114, 105, 112, 116], [80, 97, 114, 115, 101, 69, 114, 114, 111, 114], [84, 111, 111, 77, 97, 110, 121], [66, 97, 100, 78, 97, 109, 101], [68, 117, 112, 108, 105, 99, 97, 116, 101, 78, 97, 109, 101], [87, 114, 111, 110, 103, 75, 105, 110, 100], [70, 117, 108, 108], [66, 97, 100, 76, 105, 109, 105, 116], [66, 97, 100, 67, 111, 109, 109, 97, 110, 100], [81, 117, 97, 114, 114, 101, 108], [85, 110, 107, 110, 111, 119, 110, 78, 97, 109, 101], [85, 110, 107, 110, 111, 119, 110, 72, 97, 110, 100], [78, 111, 116, 104, 105, 110, 103, 76, 101, 102, 116]])) (.cons (.asg (.tup (.cons (.v 7) (.cons (.v 8) (.cons (.v 9) .nil)))) (.tup (.cons (.call 5 (.cons (.var 5) (.cons (.var 6) .nil))) (.cons (.call 6 (.cons (.var 5) (.cons (.var 6) .nil))) (.cons (.lst true (.cons (.var 5) (.cons (.var 6) (.cons (.var 5) (.cons (.var 5) (.cons (.var 6) (.cons (.var 5) (.cons (.var 6) (.cons (.var 5) (.cons (.var 5) (.cons (.var 6) (.cons (.var 5) (.cons (.var 5) (.cons (.var 6) (.cons (.var 5) (.cons (.lit .non) .nil)))))))))))))))) .nil))))) (.cons (.asg (.v 3) (.call 1 (.cons (.var 1) (.cons (.lit (.int 15)) .nil)))) (.cons (.for_ (.v 4) (.range1 (.lit (.int 15))) (.cons (.asg (.v 10) (.bin true .mod (.bi true .int (.cons (.bin true .add (.var 3) (.bin true .mul (.lit (.int 4)) (.var 4))) .nil)) (.lit (.int 15)))) (.cons (.for_ (.v 11) (.val (.lst true (.cons (.idx (.var 7) (.var 10)) (.cons (.idx (.var 8) (.var 10)) .nil)))) (.cons (.ite (.or (.cmp .ne (.call 7 (.cons (.var 11) .nil)) (.lc true (.cmp .eq (.var 13) (.var 10)) (.v 13) (.range1 (.lit (.int 15))) .none [13])) (.or (.cmp .ne (.fld (.var 11) 0) (.idx (.var 2) (.var 10))) (.not (.call 3 (.cons (.call 4 (.cons (.var 11) .nil)) (.cons (.idx (.var 9) (.var 10)) .nil)))))) (.cons (.ret (.some (.lit (.bl false)))) .nil) .nil) (.cons (.asg (.v 12) (.lst true (.cons (.isin (.var 11) [(.cls 0)]) (.cons (.isin (.var 11) [(.bt 0)]) (.cons (.isin (.var 11) [(.cls 13)]) (.cons (.isin (.var 11) [(.bt 1)]) (.cons (.isin (.var 11) [(.bt 2)]) .nil))))))) (.cons (.ite (.cmp .ne (.var 12) (.lst true (.cons (.cmp .lt (.var 10) (.lit (.int 12))) (.cons (.cmp .lt (.var 10) (.lit (.int 12))) (.cons (.chain .le .lt (.lit (.int 12)) (.var 10) (.lit (.int 14))) (.cons (.cmp .ge (.var 10) (.lit (.int 12))) (.cons (.cmp .eq (.var 10) (.lit (.int 14))) .nil))))))) (.cons (.ret (.some (.lit (.bl false)))) .nil) .nil) .nil)))) .nil))) (.cons (.ret (.some (.lit (.bl true)))) .nil))))))))
def n8 : List PySem.Str := ["_law_script", "_law_bag_z", "_law_words", "_law_start", "_law_turn", "_law_n", "_law_m", "_law_first", "_law_second", "_law_due", "_law_k", "_law_e", "_law_told", "_law_j"]
def p8 : List PySem.Str := ["_law_script"]
def df8 : Df := ⟨1, 14, b8⟩
def fns : List PySem.Str := ["_law_bag", "_law_take", "_law_of", "_law_alike", "_law_field", "_law_errors", "_law_named", "_law_flags", "law"]
def eds : List ErD := [⟨"GroveError", "?", 0⟩, ⟨"BadDocument", "path", 0⟩, ⟨"BadShape", "at", 0⟩, ⟨"BadScript", "line", 0⟩, ⟨"ParseError", "at", 0⟩, ⟨"TooMany", "most", 0⟩, ⟨"BadName", "name", 0⟩, ⟨"DuplicateName", "name", 0⟩, ⟨"WrongKind", "name", 0⟩, ⟨"Full", "most", 0⟩, ⟨"BadLimit", "given", 0⟩, ⟨"BadCommand", "word", 0⟩, ⟨"Quarrel", "shown", 0⟩, ⟨"Missing", "?", 1⟩, ⟨"UnknownName", "name", 1⟩, ⟨"UnknownHand", "hand", 1⟩, ⟨"NothingLeft", "?", 2⟩]
def ens : List (PySem.Str × PySem.Str) := eds.map fun e => (e.name, e.pn)
def fnm : List PySem.Str := ["code", "path", "at", "line", "most", "name", "given", "word", "shown", "hand"]
def ct : CT := ⟨fns, ens, fnm⟩
def efs : Nat → List (Nat × (Nat ⊕ MV))
  | 0 => [(0, .inr (.str [71, 114, 111, 118, 101, 69, 114, 114, 111, 114]))]
  | 1 => [(1, .inl 0), (0, .inr (.str [66, 97, 100, 68, 111, 99, 117, 109, 101, 110, 116]))]
  | 2 => [(2, .inl 0), (0, .inr (.str [66, 97, 100, 83, 104, 97, 112, 101]))]
  | 3 => [(3, .inl 0), (0, .inr (.str [66, 97, 100, 83, 99, 114, 105, 112, 116]))]
  | 4 => [(2, .inl 0), (0, .inr (.str [80, 97, 114, 115, 101, 69, 114, 114, 111, 114]))]
  | 5 => [(4, .inl 0), (0, .inr (.str [84, 111, 111, 77, 97, 110, 121]))]
  | 6 => [(5, .inl 0), (0, .inr (.str [66, 97, 100, 78, 97, 109, 101]))]
  | 7 => [(5, .inl 0), (0, .inr (.str [68, 117, 112, 108, 105, 99, 97, 116, 101, 78, 97, 109, 101]))]
  | 8 => [(5, .inl 0), (0, .inr (.str [87, 114, 111, 110, 103, 75, 105, 110, 100]))]
  | 9 => [(4, .inl 0), (0, .inr (.str [70, 117, 108, 108]))]
  | 10 => [(6, .inl 0), (0, .inr (.str [66, 97, 100, 76, 105, 109, 105, 116]))]
  | 11 => [(7, .inl 0), (0, .inr (.str [66, 97, 100, 67, 111, 109, 109, 97, 110, 100]))]
  | 12 => [(8, .inl 0), (0, .inr (.str [81, 117, 97, 114, 114, 101, 108]))]
  | 13 => [(0, .inr (.str [77, 105, 115, 115, 105, 110, 103]))]
  | 14 => [(5, .inl 0), (0, .inr (.str [85, 110, 107, 110, 111, 119, 110, 78, 97, 109, 101]))]
  | 15 => [(9, .inl 0), (0, .inr (.str [85, 110, 107, 110, 111, 119, 110, 72, 97, 110, 100]))]
  | 16 => [(0, .inr (.str [78, 111, 116, 104, 105, 110, 103, 76, 101, 102, 116]))]
  | _ => []
def sub (c d : Nat) : Bool := match c with
  | 0 => [0].contains d
  | 1 => [1, 0].contains d
  | 2 => [2, 0].contains d
  | 3 => [3, 0].contains d
  | 4 => [4, 0].contains d
  | 5 => [5, 0].contains d
  | 6 => [6, 0].contains d
  | 7 => [7, 0].contains d
  | 8 => [8, 0].contains d
  | 9 => [9, 0].contains d
  | 10 => [10, 0].contains d
  | 11 => [11, 0].contains d
  | 12 => [12, 0].contains d
  | 13 => [13].contains d
  | 14 => [14, 13].contains d
  | 15 => [15, 13].contains d
  | 16 => [16].contains d
  | _ => false
def subB (c n : Nat) : Bool := match c with
  | 0 => [0].contains n
  | 1 => [0].contains n
  | 2 => [0].contains n
  | 3 => [0].contains n
  | 4 => [0].contains n
  | 5 => [0].contains n
  | 6 => [0].contains n
  | 7 => [0].contains n
  | 8 => [0].contains n
  | 9 => [0].contains n
  | 10 => [0].contains n
  | 11 => [0].contains n
  | 12 => [0].contains n
  | 13 => [1].contains n
  | 14 => [1].contains n
  | 15 => [1].contains n
  | 16 => [1, 2].contains n
  | _ => false
def tb : Tab := ⟨sub, subB, efs, 17, 10⟩
def defs : List Df := [df0, df1, df2, df3, df4, df5, df6, df7, df8]
theorem ok0 : okSs ct ⟨n0, defScope (top 19), defScope (top 19)⟩ b0 (defBody (top 19)) = true := by kernel_rfl
theorem sc0 : FnScope n0 p0 (defScope (top 19)) := ⟨rfl, rfl, rfl, by decide +kernel, by decide +kernel, by decide +kernel, by decide +kernel⟩
def d0 : He.DefD := ⟨("_law_bag", none), "_law_bag", "_law_bag", defArgs (top 19), defBody (top 19), defScope (top 19), [], []⟩
theorem ok1 : okSs ct ⟨n1, defScope (top 20), defScope (top 20)⟩ b1 (defBody (top 20)) = true := by kernel_rfl
theorem sc1 : FnScope n1 p1 (defScope (top 20)) := ⟨rfl, rfl, rfl, by decide +kernel, by decide +kernel, by decide +kernel, by decide +kernel⟩
def d1 : He.DefD := ⟨("_law_take", none), "_law_take", "_law_take", defArgs (top 20), defBody (top 20), defScope (top 20), [], []⟩
theorem ok2 : okSs ct ⟨n2, defScope (top 21), defScope (top 21)⟩ b2 (defBody (top 21)) = true := by kernel_rfl
theorem sc2 : FnScope n2 p2 (defScope (top 21)) := ⟨rfl, rfl, rfl, by decide +kernel, by decide +kernel, by decide +kernel, by decide +kernel⟩
def d2 : He.DefD := ⟨("_law_of", none), "_law_of", "_law_of", defArgs (top 21), defBody (top 21), defScope (top 21), [], []⟩
theorem ok3 : okSs ct ⟨n3, defScope (top 22), defScope (top 22)⟩ b3 (defBody (top 22)) = true := by kernel_rfl
theorem sc3 : FnScope n3 p3 (defScope (top 22)) := ⟨rfl, rfl, rfl, by decide +kernel, by decide +kernel, by decide +kernel, by decide +kernel⟩
def d3 : He.DefD := ⟨("_law_alike", none), "_law_alike", "_law_alike", defArgs (top 22), defBody (top 22), defScope (top 22), [], []⟩
theorem ok4 : okSs ct ⟨n4, defScope (top 23), defScope (top 23)⟩ b4 (defBody (top 23)) = true := by kernel_rfl
theorem sc4 : FnScope n4 p4 (defScope (top 23)) := ⟨rfl, rfl, rfl, by decide +kernel, by decide +kernel, by decide +kernel, by decide +kernel⟩
def d4 : He.DefD := ⟨("_law_field", none), "_law_field", "_law_field", defArgs (top 23), defBody (top 23), defScope (top 23), [], []⟩
theorem ok5 : okSs ct ⟨n5, defScope (top 24), defScope (top 24)⟩ b5 (defBody (top 24)) = true := by kernel_rfl
theorem sc5 : FnScope n5 p5 (defScope (top 24)) := ⟨rfl, rfl, rfl, by decide +kernel, by decide +kernel, by decide +kernel, by decide +kernel⟩
def d5 : He.DefD := ⟨("_law_errors", none), "_law_errors", "_law_errors", defArgs (top 24), defBody (top 24), defScope (top 24), [], []⟩
theorem ok6 : okSs ct ⟨n6, defScope (top 25), defScope (top 25)⟩ b6 (defBody (top 25)) = true := by kernel_rfl
theorem sc6 : FnScope n6 p6 (defScope (top 25)) := ⟨rfl, rfl, rfl, by decide +kernel, by decide +kernel, by decide +kernel, by decide +kernel⟩
def d6 : He.DefD := ⟨("_law_named", none), "_law_named", "_law_named", defArgs (top 25), defBody (top 25), defScope (top 25), [], []⟩
theorem ok7 : okSs ct ⟨n7, defScope (top 26), defScope (top 26)⟩ b7 (defBody (top 26)) = true := by kernel_rfl
theorem sc7 : FnScope n7 p7 (defScope (top 26)) := ⟨rfl, rfl, rfl, by decide +kernel, by decide +kernel, by decide +kernel, by decide +kernel⟩
def d7 : He.DefD := ⟨("_law_flags", none), "_law_flags", "_law_flags", defArgs (top 26), defBody (top 26), defScope (top 26), [], []⟩
theorem ok8 : okSs ct ⟨n8, defScope (top 27), defScope (top 27)⟩ b8 (defBody (top 27)) = true := by kernel_rfl
theorem sc8 : FnScope n8 p8 (defScope (top 27)) := ⟨rfl, rfl, rfl, by decide +kernel, by decide +kernel, by decide +kernel, by decide +kernel⟩
def d8 : He.DefD := ⟨("law", none), "law", "law", defArgs (top 27), defBody (top 27), defScope (top 27), [], []⟩
def e0 : He.DefD := ⟨("GroveError", some "__init__"), "__init__", "GroveError.__init__", defArgs (ini 1), defBody (ini 1), defScope (ini 1), [], []⟩
def e1 : He.DefD := ⟨("BadDocument", some "__init__"), "__init__", "BadDocument.__init__", defArgs (ini 2), defBody (ini 2), defScope (ini 2), [], []⟩
def e2 : He.DefD := ⟨("BadShape", some "__init__"), "__init__", "BadShape.__init__", defArgs (ini 3), defBody (ini 3), defScope (ini 3), [], []⟩
def e3 : He.DefD := ⟨("BadScript", some "__init__"), "__init__", "BadScript.__init__", defArgs (ini 4), defBody (ini 4), defScope (ini 4), [], []⟩
def e4 : He.DefD := ⟨("ParseError", some "__init__"), "__init__", "ParseError.__init__", defArgs (ini 5), defBody (ini 5), defScope (ini 5), [], []⟩
def e5 : He.DefD := ⟨("TooMany", some "__init__"), "__init__", "TooMany.__init__", defArgs (ini 6), defBody (ini 6), defScope (ini 6), [], []⟩
def e6 : He.DefD := ⟨("BadName", some "__init__"), "__init__", "BadName.__init__", defArgs (ini 7), defBody (ini 7), defScope (ini 7), [], []⟩
def e7 : He.DefD := ⟨("DuplicateName", some "__init__"), "__init__", "DuplicateName.__init__", defArgs (ini 8), defBody (ini 8), defScope (ini 8), [], []⟩
def e8 : He.DefD := ⟨("WrongKind", some "__init__"), "__init__", "WrongKind.__init__", defArgs (ini 9), defBody (ini 9), defScope (ini 9), [], []⟩
def e9 : He.DefD := ⟨("Full", some "__init__"), "__init__", "Full.__init__", defArgs (ini 10), defBody (ini 10), defScope (ini 10), [], []⟩
def e10 : He.DefD := ⟨("BadLimit", some "__init__"), "__init__", "BadLimit.__init__", defArgs (ini 11), defBody (ini 11), defScope (ini 11), [], []⟩
def e11 : He.DefD := ⟨("BadCommand", some "__init__"), "__init__", "BadCommand.__init__", defArgs (ini 12), defBody (ini 12), defScope (ini 12), [], []⟩
def e12 : He.DefD := ⟨("Quarrel", some "__init__"), "__init__", "Quarrel.__init__", defArgs (ini 13), defBody (ini 13), defScope (ini 13), [], []⟩
def e13 : He.DefD := ⟨("Missing", some "__init__"), "__init__", "Missing.__init__", defArgs (ini 14), defBody (ini 14), defScope (ini 14), [], []⟩
def e14 : He.DefD := ⟨("UnknownName", some "__init__"), "__init__", "UnknownName.__init__", defArgs (ini 15), defBody (ini 15), defScope (ini 15), [], []⟩
def e15 : He.DefD := ⟨("UnknownHand", some "__init__"), "__init__", "UnknownHand.__init__", defArgs (ini 16), defBody (ini 16), defScope (ini 16), [], []⟩
def e16 : He.DefD := ⟨("NothingLeft", some "__init__"), "__init__", "NothingLeft.__init__", defArgs (ini 17), defBody (ini 17), defScope (ini 17), [], []⟩

def fn : List He.DefD := [d0, d1, d2, d3, d4, d5, d6, d7, d8, e0, e1, e2, e3, e4, e5, e6, e7, e8, e9, e10, e11, e12, e13, e14, e15, e16]
abbrev R : PySem.W.OpenRow := PySem.W.OpenLaw.row PySem.Challenge.rw_rubgrove_k61_error_classes
abbrev qv : Program := PySem.W.view R.prog [27]
abbrev hk : PySem.W.Hook := hookG 5 fn (chkB eds fns fnm tb)
def ob (s : PySem.W.SharedT) : He.AlD × Bool := obsG 5 fn (chkB eds fns fnm tb) (HandSHeadRun.getT s)
theorem ob_eq (s : PySem.W.SharedT) : ob s = hk.obs s.abs := obsG_eq (HandSHeadRun.getT_eq s)
def names : List PySem.Str := (["GroveError", "BadDocument", "BadShape", "BadScript", "ParseError", "TooMany", "BadName", "DuplicateName", "WrongKind", "Full", "BadLimit", "BadCommand", "Quarrel", "Missing", "UnknownName", "UnknownHand", "NothingLeft", "_law_bag", "_law_take", "_law_of", "_law_alike", "_law_field", "_law_errors", "_law_named", "_law_flags"] : List String).map PySem.Str.ofString
theorem run (w : World) : HandSHeadRun.RunEq R qv hk ob 6000 names w := by
  intro os
  kernel_rfl
end K61

set_option Elab.async false
set_option linter.all false
set_option maxRecDepth 100000
set_option maxHeartbeats 0
namespace K61
open PySem PySem.Spec PyProof.Rows L2 G
theorem se0 : FnScope ["self"] ["self"] (defScope (ini 1)) := ⟨rfl, rfl, rfl, by decide +kernel, by decide +kernel, by decide +kernel, by decide +kernel⟩
theorem se1 : FnScope ["self", "path"] ["self", "path"] (defScope (ini 2)) := ⟨rfl, rfl, rfl, by decide +kernel, by decide +kernel, by decide +kernel, by decide +kernel⟩
theorem se2 : FnScope ["self", "at"] ["self", "at"] (defScope (ini 3)) := ⟨rfl, rfl, rfl, by decide +kernel, by decide +kernel, by decide +kernel, by decide +kernel⟩
theorem se3 : FnScope ["self", "line"] ["self", "line"] (defScope (ini 4)) := ⟨rfl, rfl, rfl, by decide +kernel, by decide +kernel, by decide +kernel, by decide +kernel⟩
theorem se4 : FnScope ["self", "at"] ["self", "at"] (defScope (ini 5)) := ⟨rfl, rfl, rfl, by decide +kernel, by decide +kernel, by decide +kernel, by decide +kernel⟩
theorem se5 : FnScope ["self", "most"] ["self", "most"] (defScope (ini 6)) := ⟨rfl, rfl, rfl, by decide +kernel, by decide +kernel, by decide +kernel, by decide +kernel⟩
theorem se6 : FnScope ["self", "name"] ["self", "name"] (defScope (ini 7)) := ⟨rfl, rfl, rfl, by decide +kernel, by decide +kernel, by decide +kernel, by decide +kernel⟩
theorem se7 : FnScope ["self", "name"] ["self", "name"] (defScope (ini 8)) := ⟨rfl, rfl, rfl, by decide +kernel, by decide +kernel, by decide +kernel, by decide +kernel⟩
theorem se8 : FnScope ["self", "name"] ["self", "name"] (defScope (ini 9)) := ⟨rfl, rfl, rfl, by decide +kernel, by decide +kernel, by decide +kernel, by decide +kernel⟩
theorem se9 : FnScope ["self", "most"] ["self", "most"] (defScope (ini 10)) := ⟨rfl, rfl, rfl, by decide +kernel, by decide +kernel, by decide +kernel, by decide +kernel⟩
theorem se10 : FnScope ["self", "given"] ["self", "given"] (defScope (ini 11)) := ⟨rfl, rfl, rfl, by decide +kernel, by decide +kernel, by decide +kernel, by decide +kernel⟩
theorem se11 : FnScope ["self", "word"] ["self", "word"] (defScope (ini 12)) := ⟨rfl, rfl, rfl, by decide +kernel, by decide +kernel, by decide +kernel, by decide +kernel⟩
theorem se12 : FnScope ["self", "shown"] ["self", "shown"] (defScope (ini 13)) := ⟨rfl, rfl, rfl, by decide +kernel, by decide +kernel, by decide +kernel, by decide +kernel⟩
theorem se13 : FnScope ["self"] ["self"] (defScope (ini 14)) := ⟨rfl, rfl, rfl, by decide +kernel, by decide +kernel, by decide +kernel, by decide +kernel⟩
theorem se14 : FnScope ["self", "name"] ["self", "name"] (defScope (ini 15)) := ⟨rfl, rfl, rfl, by decide +kernel, by decide +kernel, by decide +kernel, by decide +kernel⟩
theorem se15 : FnScope ["self", "hand"] ["self", "hand"] (defScope (ini 16)) := ⟨rfl, rfl, rfl, by decide +kernel, by decide +kernel, by decide +kernel, by decide +kernel⟩
theorem se16 : FnScope ["self"] ["self"] (defScope (ini 17)) := ⟨rfl, rfl, rfl, by decide +kernel, by decide +kernel, by decide +kernel, by decide +kernel⟩
section
variable {P : Program} {w : World} {K : PySem.W.Frag} {h : Heap} {mg : PySem.Str → Option Value} {base : Heap}
abbrev zt (K : PySem.W.Frag) : Stat := ⟨K, fnOf fnm, caOf K eds⟩
theorem dc0 (X : K.In h) (G : h.Ns mainGlobals mg) (c : He.SaysD [] fn K) (ck : chkB eds fns fnm tb K = true) : ∃ (fd : FuncData), DefC ct P w K mg "_law_bag" df0 (He.ga K "_law_bag") fd p0 := by
  obtain ⟨fd, F⟩ := c.def_ 0 (d := d0) rfl
  have F : FunD K "_law_bag" "_law_bag" (defArgs (top 19)) (defBody (top 19)) (defScope (top 19)) [] [] (He.ga K "_law_bag") fd := F
  exact ⟨fd, ⟨⟨_, _, _, _, _, n0, F, sc0, ok0, rfl⟩, rfl, chk_glo ck X G (f := 0) rfl, F.kp, F.bindsN fun _ _ _ _ _ _ us hl => match us, hl with | [_], _ => rfl⟩⟩
theorem dc1 (X : K.In h) (G : h.Ns mainGlobals mg) (c : He.SaysD [] fn K) (ck : chkB eds fns fnm tb K = true) : ∃ (fd : FuncData), DefC ct P w K mg "_law_take" df1 (He.ga K "_law_take") fd p1 := by
  obtain ⟨fd, F⟩ := c.def_ 1 (d := d1) rfl
  have F : FunD K "_law_take" "_law_take" (defArgs (top 20)) (defBody (top 20)) (defScope (top 20)) [] [] (He.ga K "_law_take") fd := F
  exact ⟨fd, ⟨⟨_, _, _, _, _, n1, F, sc1, ok1, rfl⟩, rfl, chk_glo ck X G (f := 1) rfl, F.kp, F.bindsN fun _ _ _ _ _ _ us hl => match us, hl with | [_, _], _ => rfl⟩⟩
theorem dc2 (X : K.In h) (G : h.Ns mainGlobals mg) (c : He.SaysD [] fn K) (ck : chkB eds fns fnm tb K = true) : ∃ (fd : FuncData), DefC ct P w K mg "_law_of" df2 (He.ga K "_law_of") fd p2 := by
  obtain ⟨fd, F⟩ := c.def_ 2 (d := d2) rfl
  have F : FunD K "_law_of" "_law_of" (defArgs (top 21)) (defBody (top 21)) (defScope (top 21)) [] [] (He.ga K "_law_of") fd := F
  exact ⟨fd, ⟨⟨_, _, _, _, _, n2, F, sc2, ok2, rfl⟩, rfl, chk_glo ck X G (f := 2) rfl, F.kp, F.bindsN fun _ _ _ _ _ _ us hl => match us, hl with | [_, _], _ => rfl⟩⟩
theorem dc3 (X : K.In h) (G : h.Ns mainGlobals mg) (c : He.SaysD [] fn K) (ck : chkB eds fns fnm tb K = true) : ∃ (fd : FuncData), DefC ct P w K mg "_law_alike" df3 (He.ga K "_law_alike") fd p3 := by
  obtain ⟨fd, F⟩ := c.def_ 3 (d := d3) rfl
  have F : FunD K "_law_alike" "_law_alike" (defArgs (top 22)) (defBody (top 22)) (defScope (top 22)) [] [] (He.ga K "_law_alike") fd := F
  exact ⟨fd, ⟨⟨_, _, _, _, _, n3, F, sc3, ok3, rfl⟩, rfl, chk_glo ck X G (f := 3) rfl, F.kp, F.bindsN fun _ _ _ _ _ _ us hl => match us, hl with | [_, _], _ => rfl⟩⟩
theorem dc4 (X : K.In h) (G : h.Ns mainGlobals mg) (c : He.SaysD [] fn K) (ck : chkB eds fns fnm tb K = true) : ∃ (fd : FuncData), DefC ct P w K mg "_law_field" df4 (He.ga K "_law_field") fd p4 := by
  obtain ⟨fd, F⟩ := c.def_ 4 (d := d4) rfl
  have F : FunD K "_law_field" "_law_field" (defArgs (top 23)) (defBody (top 23)) (defScope (top 23)) [] [] (He.ga K "_law_field") fd := F
  exact ⟨fd, ⟨⟨_, _, _, _, _, n4, F, sc4, ok4, rfl⟩, rfl, chk_glo ck X G (f := 4) rfl, F.kp, F.bindsN fun _ _ _ _ _ _ us hl => match us, hl with | [_], _ => rfl⟩⟩
theorem dc5 (X : K.In h) (G : h.Ns mainGlobals mg) (c : He.SaysD [] fn K) (ck : chkB eds fns fnm tb K = true) : ∃ (fd : FuncData), DefC ct P w K mg "_law_errors" df5 (He.ga K "_law_errors") fd p5 := by
  obtain ⟨fd, F⟩ := c.def_ 5 (d := d5) rfl
  have F : FunD K "_law_errors" "_law_errors" (defArgs (top 24)) (defBody (top 24)) (defScope (top 24)) [] [] (He.ga K "_law_errors") fd := F
  exact ⟨fd, ⟨⟨_, _, _, _, _, n5, F, sc5, ok5, rfl⟩, rfl, chk_glo ck X G (f := 5) rfl, F.kp, F.bindsN fun _ _ _ _ _ _ us hl => match us, hl with | [_, _], _ => rfl⟩⟩
theorem dc6 (X : K.In h) (G : h.Ns mainGlobals mg) (c : He.SaysD [] fn K) (ck : chkB eds fns fnm tb K = true) : ∃ (fd : FuncData), DefC ct P w K mg "_law_named" df6 (He.ga K "_law_named") fd p6 := by
  obtain ⟨fd, F⟩ := c.def_ 6 (d := d6) rfl
  have F : FunD K "_law_named" "_law_named" (defArgs (top 25)) (defBody (top 25)) (defScope (top 25)) [] [] (He.ga K "_law_named") fd := F
  exact ⟨fd, ⟨⟨_, _, _, _, _, n6, F, sc6, ok6, rfl⟩, rfl, chk_glo ck X G (f := 6) rfl, F.kp, F.bindsN fun _ _ _ _ _ _ us hl => match us, hl with | [_, _], _ => rfl⟩⟩
theorem dc7 (X : K.In h) (G : h.Ns mainGlobals mg) (c : He.SaysD [] fn K) (ck : chkB eds fns fnm tb K = true) : ∃ (fd : FuncData), DefC ct P w K mg "_law_flags" df7 (He.ga K "_law_flags") fd p7 := by
  obtain ⟨fd, F⟩ := c.def_ 7 (d := d7) rfl
  have F : FunD K "_law_flags" "_law_flags" (defArgs (top 26)) (defBody (top 26)) (defScope (top 26)) [] [] (He.ga K "_law_flags") fd := F
  exact ⟨fd, ⟨⟨_, _, _, _, _, n7, F, sc7, ok7, rfl⟩, rfl, chk_glo ck X G (f := 7) rfl, F.kp, F.bindsN fun _ _ _ _ _ _ us hl => match us, hl with | [_], _ => rfl⟩⟩
theorem dc8 (X : K.In h) (G : h.Ns mainGlobals mg) (c : He.SaysD [] fn K) (ck : chkB eds fns fnm tb K = true) : ∃ (fd : FuncData), DefC ct P w K mg "law" df8 (He.ga K "law") fd p8 := by
  obtain ⟨fd, F⟩ := c.def_ 8 (d := d8) rfl
  have F : FunD K "law" "law" (defArgs (top 27)) (defBody (top 27)) (defScope (top 27)) [] [] (He.ga K "law") fd := F
  exact ⟨fd, ⟨⟨_, _, _, _, _, n8, F, sc8, ok8, rfl⟩, rfl, chk_glo ck X G (f := 8) rfl, F.kp, F.bindsN fun _ _ _ _ _ _ us hl => match us, hl with | [_], _ => rfl⟩⟩
theorem er0 (X : K.In h) (G : h.Ns mainGlobals mg) (c : He.SaysD [] fn K) (ck : chkB eds fns fnm tb K = true) : ErrC0 (zt K) tb.efs P w K mg base 0 "GroveError" "?" := by
  obtain ⟨fd, F⟩ := c.def_ 9 (d := e0) rfl
  have F : FunD K "__init__" "GroveError.__init__" (defArgs (ini 1)) (defBody (ini 1)) (defScope (ini 1)) [] [] (He.ma K (He.ga K "GroveError") "__init__") fd := F
  exact err1 (e := (⟨"GroveError", "?", 0⟩ : ErD)) (cf := 0) ck X G rfl rfl rfl rfl (by decide) (by decide +kernel) (by decide +kernel) F se0 (by decide +kernel) (fun _ _ _ _ _ _ us hl => match us, hl with | [_], _ => rfl)
theorem er1 (X : K.In h) (G : h.Ns mainGlobals mg) (c : He.SaysD [] fn K) (ck : chkB eds fns fnm tb K = true) : ErrC0 (zt K) tb.efs P w K mg base 1 "BadDocument" "path" := by
  obtain ⟨fd, F⟩ := c.def_ 10 (d := e1) rfl
  have F : FunD K "__init__" "BadDocument.__init__" (defArgs (ini 2)) (defBody (ini 2)) (defScope (ini 2)) [] [] (He.ma K (He.ga K "BadDocument") "__init__") fd := F
  exact err2 (e := (⟨"BadDocument", "path", 0⟩ : ErD)) (f := 1) (cf := 0) ck X G rfl rfl rfl rfl (by decide) (by decide) (by decide +kernel) (by decide +kernel) F se1 (by decide +kernel) (by decide +kernel) (by decide +kernel) (by decide +kernel) (fun _ _ _ _ _ _ _ _ => rfl) (fun _ _ _ _ _ _ us hl => match us, hl with | [_, _], _ => rfl)
theorem er2 (X : K.In h) (G : h.Ns mainGlobals mg) (c : He.SaysD [] fn K) (ck : chkB eds fns fnm tb K = true) : ErrC0 (zt K) tb.efs P w K mg base 2 "BadShape" "at" := by
  obtain ⟨fd, F⟩ := c.def_ 11 (d := e2) rfl
  have F : FunD K "__init__" "BadShape.__init__" (defArgs (ini 3)) (defBody (ini 3)) (defScope (ini 3)) [] [] (He.ma K (He.ga K "BadShape") "__init__") fd := F
  exact err2 (e := (⟨"BadShape", "at", 0⟩ : ErD)) (f := 2) (cf := 0) ck X G rfl rfl rfl rfl (by decide) (by decide) (by decide +kernel) (by decide +kernel) F se2 (by decide +kernel) (by decide +kernel) (by decide +kernel) (by decide +kernel) (fun _ _ _ _ _ _ _ _ => rfl) (fun _ _ _ _ _ _ us hl => match us, hl with | [_, _], _ => rfl)
theorem er3 (X : K.In h) (G : h.Ns mainGlobals mg) (c : He.SaysD [] fn K) (ck : chkB eds fns fnm tb K = true) : ErrC0 (zt K) tb.efs P w K mg base 3 "BadScript" "line" := by
  obtain ⟨fd, F⟩ := c.def_ 12 (d := e3) rfl
  have F : FunD K "__init__" "BadScript.__init__" (defArgs (ini 4)) (defBody (ini 4)) (defScope (ini 4)) [] [] (He.ma K (He.ga K "BadScript") "__init__") fd := F
  exact err2 (e := (⟨"BadScript", "line", 0⟩ : ErD)) (f := 3) (cf := 0) ck X G rfl rfl rfl rfl (by decide) (by decide) (by decide +kernel) (by decide +kernel) F se3 (by decide +kernel) (by decide +kernel) (by decide +kernel) (by decide +kernel) (fun _ _ _ _ _ _ _ _ => rfl) (fun _ _ _ _ _ _ us hl => match us, hl with | [_, _], _ => rfl)
theorem er4 (X : K.In h) (G : h.Ns mainGlobals mg) (c : He.SaysD [] fn K) (ck : chkB eds fns fnm tb K = true) : ErrC0 (zt K) tb.efs P w K mg base 4 "ParseError" "at" := by
  obtain ⟨fd, F⟩ := c.def_ 13 (d := e4) rfl
  have F : FunD K "__init__" "ParseError.__init__" (defArgs (ini 5)) (defBody (ini 5)) (defScope (ini 5)) [] [] (He.ma K (He.ga K "ParseError") "__init__") fd := F
  exact err2 (e := (⟨"ParseError", "at", 0⟩ : ErD)) (f := 2) (cf := 0) ck X G rfl rfl rfl rfl (by decide) (by decide) (by decide +kernel) (by decide +kernel) F se4 (by decide +kernel) (by decide +kernel) (by decide +kernel) (by decide +kernel) (fun _ _ _ _ _ _ _ _ => rfl) (fun _ _ _ _ _ _ us hl => match us, hl with | [_, _], _ => rfl)
theorem er5 (X : K.In h) (G : h.Ns mainGlobals mg) (c : He.SaysD [] fn K) (ck : chkB eds fns fnm tb K = true) : ErrC0 (zt K) tb.efs P w K mg base 5 "TooMany" "most" := by
  obtain ⟨fd, F⟩ := c.def_ 14 (d := e5) rfl
  have F : FunD K "__init__" "TooMany.__init__" (defArgs (ini 6)) (defBody (ini 6)) (defScope (ini 6)) [] [] (He.ma K (He.ga K "TooMany") "__init__") fd := F
  exact err2 (e := (⟨"TooMany", "most", 0⟩ : ErD)) (f := 4) (cf := 0) ck X G rfl rfl rfl rfl (by decide) (by decide) (by decide +kernel) (by decide +kernel) F se5 (by decide +kernel) (by decide +kernel) (by decide +kernel) (by decide +kernel) (fun _ _ _ _ _ _ _ _ => rfl) (fun _ _ _ _ _ _ us hl => match us, hl with | [_, _], _ => rfl)
theorem er6 (X : K.In h) (G : h.Ns mainGlobals mg) (c : He.SaysD [] fn K) (ck : chkB eds fns fnm tb K = true) : ErrC0 (zt K) tb.efs P w K mg base 6 "BadName" "name" := by
  obtain ⟨fd, F⟩ := c.def_ 15 (d := e6) rfl
  have F : FunD K "__init__" "BadName.__init__" (defArgs (ini 7)) (defBody (ini 7)) (defScope (ini 7)) [] [] (He.ma K (He.ga K "BadName") "__init__") fd := F
  exact err2 (e := (⟨"BadName", "name", 0⟩ : ErD)) (f := 5) (cf := 0) ck X G rfl rfl rfl rfl (by decide) (by decide) (by decide +kernel) (by decide +kernel) F se6 (by decide +kernel) (by decide +kernel) (by decide +kernel) (by decide +kernel) (fun _ _ _ _ _ _ _ _ => rfl) (fun _ _ _ _ _ _ us hl => match us, hl with | [_, _], _ => rfl)
theorem er7 (X : K.In h) (G : h.Ns mainGlobals mg) (c : He.SaysD [] fn K) (ck : chkB eds fns fnm tb K = true) : ErrC0 (zt K) tb.efs P w K mg base 7 "DuplicateName" "name" := by
  obtain ⟨fd, F⟩ := c.def_ 16 (d := e7) rfl
  have F : FunD K "__init__" "DuplicateName.__init__" (defArgs (ini 8)) (defBody (ini 8)) (defScope (ini 8)) [] [] (He.ma K (He.ga K "DuplicateName") "__init__") fd := F
  exact err2 (e := (⟨"DuplicateName", "name", 0⟩ : ErD)) (f := 5) (cf := 0) ck X G rfl rfl rfl rfl (by decide) (by decide) (by decide +kernel) (by decide +kernel) F se7 (by decide +kernel) (by decide +kernel) (by decide +kernel) (by decide +kernel) (fun _ _ _ _ _ _ _ _ => rfl) (fun _ _ _ _ _ _ us hl => match us, hl with | [_, _], _ => rfl)
theorem er8 (X : K.In h) (G : h.Ns mainGlobals mg) (c : He.SaysD [] fn K) (ck : chkB eds fns fnm tb K = true) : ErrC0 (zt K) tb.efs P w K mg base 8 "WrongKind" "name" := by
  obtain ⟨fd, F⟩ := c.def_ 17 (d := e8) rfl
  have F : FunD K "__init__" "WrongKind.__init__" (defArgs (ini 9)) (defBody (ini 9)) (defScope (ini 9)) [] [] (He.ma K (He.ga K "WrongKind") "__init__") fd := F
  exact err2 (e := (⟨"WrongKind", "name", 0⟩ : ErD)) (f := 5) (cf := 0) ck X G rfl rfl rfl rfl (by decide) (by decide) (by decide +kernel) (by decide +kernel) F se8 (by decide +kernel) (by decide +kernel) (by decide +kernel) (by decide +kernel) (fun _ _ _ _ _ _ _ _ => rfl) (fun _ _ _ _ _ _ us hl => match us, hl with | [_, _], _ => rfl)
theorem er9 (X : K.In h) (G : h.Ns mainGlobals mg) (c : He.SaysD [] fn K) (ck : chkB eds fns fnm tb K = true) : ErrC0 (zt K) tb.efs P w K mg base 9 "Full" "most" := by
  obtain ⟨fd, F⟩ := c.def_ 18 (d := e9) rfl
  have F : FunD K "__init__" "Full.__init__" (defArgs (ini 10)) (defBody (ini 10)) (defScope (ini 10)) [] [] (He.ma K (He.ga K "Full") "__init__") fd := F
  exact err2 (e := (⟨"Full", "most", 0⟩ : ErD)) (f := 4) (cf := 0) ck X G rfl rfl rfl rfl (by decide) (by decide) (by decide +kernel) (by decide +kernel) F se9 (by decide +kernel) (by decide +kernel) (by decide +kernel) (by decide +kernel) (fun _ _ _ _ _ _ _ _ => rfl) (fun _ _ _ _ _ _ us hl => match us, hl with | [_, _], _ => rfl)
theorem er10 (X : K.In h) (G : h.Ns mainGlobals mg) (c : He.SaysD [] fn K) (ck : chkB eds fns fnm tb K = true) : ErrC0 (zt K) tb.efs P w K mg base 10 "BadLimit" "given" := by
  obtain ⟨fd, F⟩ := c.def_ 19 (d := e10) rfl
  have F : FunD K "__init__" "BadLimit.__init__" (defArgs (ini 11)) (defBody (ini 11)) (defScope (ini 11)) [] [] (He.ma K (He.ga K "BadLimit") "__init__") fd := F
  exact err2 (e := (⟨"BadLimit", "given", 0⟩ : ErD)) (f := 6) (cf := 0) ck X G rfl rfl rfl rfl (by decide) (by decide) (by decide +kernel) (by decide +kernel) F se10 (by decide +kernel) (by decide +kernel) (by decide +kernel) (by decide +kernel) (fun _ _ _ _ _ _ _ _ => rfl) (fun _ _ _ _ _ _ us hl => match us, hl with | [_, _], _ => rfl)
theorem er11 (X : K.In h) (G : h.Ns mainGlobals mg) (c : He.SaysD [] fn K) (ck : chkB eds fns fnm tb K = true) : ErrC0 (zt K) tb.efs P w K mg base 11 "BadCommand" "word" := by
  obtain ⟨fd, F⟩ := c.def_ 20 (d := e11) rfl
  have F : FunD K "__init__" "BadCommand.__init__" (defArgs (ini 12)) (defBody (ini 12)) (defScope (ini 12)) [] [] (He.ma K (He.ga K "BadCommand") "__init__") fd := F
  exact err2 (e := (⟨"BadCommand", "word", 0⟩ : ErD)) (f := 7) (cf := 0) ck X G rfl rfl rfl rfl (by decide) (by decide) (by decide +kernel) (by decide +kernel) F se11 (by decide +kernel) (by decide +kernel) (by decide +kernel) (by decide +kernel) (fun _ _ _ _ _ _ _ _ => rfl) (fun _ _ _ _ _ _ us hl => match us, hl with | [_, _], _ => rfl)
theorem er12 (X : K.In h) (G : h.Ns mainGlobals mg) (c : He.SaysD [] fn K) (ck : chkB eds fns fnm tb K = true) : ErrC0 (zt K) tb.efs P w K mg base 12 "Quarrel" "shown" := by
  obtain ⟨fd, F⟩ := c.def_ 21 (d := e12) rfl
  have F : FunD K "__init__" "Quarrel.__init__" (defArgs (ini 13)) (defBody (ini 13)) (defScope (ini 13)) [] [] (He.ma K (He.ga K "Quarrel") "__init__") fd := F
  exact err2 (e := (⟨"Quarrel", "shown", 0⟩ : ErD)) (f := 8) (cf := 0) ck X G rfl rfl rfl rfl (by decide) (by decide) (by decide +kernel) (by decide +kernel) F se12 (by decide +kernel) (by decide +kernel) (by decide +kernel) (by decide +kernel) (fun _ _ _ _ _ _ _ _ => rfl) (fun _ _ _ _ _ _ us hl => match us, hl with | [_, _], _ => rfl)
theorem er13 (X : K.In h) (G : h.Ns mainGlobals mg) (c : He.SaysD [] fn K) (ck : chkB eds fns fnm tb K = true) : ErrC0 (zt K) tb.efs P w K mg base 13 "Missing" "?" := by
  obtain ⟨fd, F⟩ := c.def_ 22 (d := e13) rfl
  have F : FunD K "__init__" "Missing.__init__" (defArgs (ini 14)) (defBody (ini 14)) (defScope (ini 14)) [] [] (He.ma K (He.ga K "Missing") "__init__") fd := F
  exact err1 (e := (⟨"Missing", "?", 1⟩ : ErD)) (cf := 0) ck X G rfl rfl rfl rfl (by decide) (by decide +kernel) (by decide +kernel) F se13 (by decide +kernel) (fun _ _ _ _ _ _ us hl => match us, hl with | [_], _ => rfl)
theorem er14 (X : K.In h) (G : h.Ns mainGlobals mg) (c : He.SaysD [] fn K) (ck : chkB eds fns fnm tb K = true) : ErrC0 (zt K) tb.efs P w K mg base 14 "UnknownName" "name" := by
  obtain ⟨fd, F⟩ := c.def_ 23 (d := e14) rfl
  have F : FunD K "__init__" "UnknownName.__init__" (defArgs (ini 15)) (defBody (ini 15)) (defScope (ini 15)) [] [] (He.ma K (He.ga K "UnknownName") "__init__") fd := F
  exact err2 (e := (⟨"UnknownName", "name", 1⟩ : ErD)) (f := 5) (cf := 0) ck X G rfl rfl rfl rfl (by decide) (by decide) (by decide +kernel) (by decide +kernel) F se14 (by decide +kernel) (by decide +kernel) (by decide +kernel) (by decide +kernel) (fun _ _ _ _ _ _ _ _ => rfl) (fun _ _ _ _ _ _ us hl => match us, hl with | [_, _], _ => rfl)
theorem er15 (X : K.In h) (G : h.Ns mainGlobals mg) (c : He.SaysD [] fn K) (ck : chkB eds fns fnm tb K = true) : ErrC0 (zt K) tb.efs P w K mg base 15 "UnknownHand" "hand" := by
  obtain ⟨fd, F⟩ := c.def_ 24 (d := e15) rfl
  have F : FunD K "__init__" "UnknownHand.__init__" (defArgs (ini 16)) (defBody (ini 16)) (defScope (ini 16)) [] [] (He.ma K (He.ga K "UnknownHand") "__init__") fd := F
  exact err2 (e := (⟨"UnknownHand", "hand", 1⟩ : ErD)) (f := 9) (cf := 0) ck X G rfl rfl rfl rfl (by decide) (by decide) (by decide +kernel) (by decide +kernel) F se15 (by decide +kernel) (by decide +kernel) (by decide +kernel) (by decide +kernel) (fun _ _ _ _ _ _ _ _ => rfl) (fun _ _ _ _ _ _ us hl => match us, hl with | [_, _], _ => rfl)
theorem er16 (X : K.In h) (G : h.Ns mainGlobals mg) (c : He.SaysD [] fn K) (ck : chkB eds fns fnm tb K = true) : ErrC0 (zt K) tb.efs P w K mg base 16 "NothingLeft" "?" := by
  obtain ⟨fd, F⟩ := c.def_ 25 (d := e16) rfl
  have F : FunD K "__init__" "NothingLeft.__init__" (defArgs (ini 17)) (defBody (ini 17)) (defScope (ini 17)) [] [] (He.ma K (He.ga K "NothingLeft") "__init__") fd := F
  exact err1 (e := (⟨"NothingLeft", "?", 2⟩ : ErD)) (cf := 0) ck X G rfl rfl rfl rfl (by decide) (by decide +kernel) (by decide +kernel) F se16 (by decide +kernel) (fun _ _ _ _ _ _ us hl => match us, hl with | [_], _ => rfl)
theorem law_of (X : K.In h) (G : h.Ns mainGlobals mg) (c : He.SaysD [] fn K) (ck : chkB eds fns fnm tb K = true) : Law (zt K) ct tb defs P w mg base where
  fns := fun f x hx => by
    match f, hx with
    | 0, hx => cases (Option.some.inj hx); obtain ⟨fd, D⟩ := dc0 (P := P) (w := w) X G c ck; exact ⟨_, _, fd, _, rfl, D⟩
    | 1, hx => cases (Option.some.inj hx); obtain ⟨fd, D⟩ := dc1 (P := P) (w := w) X G c ck; exact ⟨_, _, fd, _, rfl, D⟩
    | 2, hx => cases (Option.some.inj hx); obtain ⟨fd, D⟩ := dc2 (P := P) (w := w) X G c ck; exact ⟨_, _, fd, _, rfl, D⟩
    | 3, hx => cases (Option.some.inj hx); obtain ⟨fd, D⟩ := dc3 (P := P) (w := w) X G c ck; exact ⟨_, _, fd, _, rfl, D⟩
    | 4, hx => cases (Option.some.inj hx); obtain ⟨fd, D⟩ := dc4 (P := P) (w := w) X G c ck; exact ⟨_, _, fd, _, rfl, D⟩
    | 5, hx => cases (Option.some.inj hx); obtain ⟨fd, D⟩ := dc5 (P := P) (w := w) X G c ck; exact ⟨_, _, fd, _, rfl, D⟩
    | 6, hx => cases (Option.some.inj hx); obtain ⟨fd, D⟩ := dc6 (P := P) (w := w) X G c ck; exact ⟨_, _, fd, _, rfl, D⟩
    | 7, hx => cases (Option.some.inj hx); obtain ⟨fd, D⟩ := dc7 (P := P) (w := w) X G c ck; exact ⟨_, _, fd, _, rfl, D⟩
    | 8, hx => cases (Option.some.inj hx); obtain ⟨fd, D⟩ := dc8 (P := P) (w := w) X G c ck; exact ⟨_, _, fd, _, rfl, D⟩
    | f + 9, hx => cases hx
  blt := chk_free ck X G
  err := fun k x pn hx => by
    match k, hx with
    | 0, hx => cases (Option.some.inj hx); exact er0 X G c ck
    | 1, hx => cases (Option.some.inj hx); exact er1 X G c ck
    | 2, hx => cases (Option.some.inj hx); exact er2 X G c ck
    | 3, hx => cases (Option.some.inj hx); exact er3 X G c ck
    | 4, hx => cases (Option.some.inj hx); exact er4 X G c ck
    | 5, hx => cases (Option.some.inj hx); exact er5 X G c ck
    | 6, hx => cases (Option.some.inj hx); exact er6 X G c ck
    | 7, hx => cases (Option.some.inj hx); exact er7 X G c ck
    | 8, hx => cases (Option.some.inj hx); exact er8 X G c ck
    | 9, hx => cases (Option.some.inj hx); exact er9 X G c ck
    | 10, hx => cases (Option.some.inj hx); exact er10 X G c ck
    | 11, hx => cases (Option.some.inj hx); exact er11 X G c ck
    | 12, hx => cases (Option.some.inj hx); exact er12 X G c ck
    | 13, hx => cases (Option.some.inj hx); exact er13 X G c ck
    | 14, hx => cases (Option.some.inj hx); exact er14 X G c ck
    | 15, hx => cases (Option.some.inj hx); exact er15 X G c ck
    | 16, hx => cases (Option.some.inj hx); exact er16 X G c ck
    | k + 17, hx => cases hx
  fld := chk_fld ck rfl rfl (by decide +kernel) (by decide +kernel) rfl rfl
  fnm := fun f x hx => by
    show x = fnOf fnm f
    unfold fnOf
    rw [show fnm[f]? = some x from hx]
    rfl
  isc := chk_isc ck rfl rfl
end
end K61

set_option linter.all false
set_option maxHeartbeats 1000000
/-! The interpreter once more, in the form that the kernel runs quickly. -/
namespace G
abbrev KV := MV → MHp → Bool
abbrev KC := Ctl → MHp → Bool
def R.el {α : Type} (r : R α) (k : α → MHp → Bool) (kx : KV) : Bool := match r with
  | .ok a h => k a h
  | .ex e h => kx e h
  | .no => false
section
variable {α : Type}
def fNat (n : Nat) (k : Nat → α) : α := Nat.rec (k 0) (fun m _ => k (m + 1)) n
theorem fNat_eq (n : Nat) (k : Nat → α) : fNat n k = k n := by cases n <;> rfl
def fInt (i : Int) (k : Int → α) : α := match i with
  | .ofNat n => fNat n fun n => k (.ofNat n)
  | .negSucc n => fNat n fun n => k (.negSucc n)
theorem fInt_eq (i : Int) (k : Int → α) : fInt i k = k i := by cases i <;> (unfold fInt; exact fNat_eq _ _)
def fBool (b : Bool) (k : Bool → α) : α := match b with
  | true => k true
  | false => k false
theorem fBool_eq (b : Bool) (k : Bool → α) : fBool b k = k b := by cases b <;> rfl
def fNats : List Nat → (List Nat → α) → α
  | [], k => k []
  | x :: xs, k => fNat x fun x => fNats xs fun xs => k (x :: xs)
theorem fNats_eq : ∀ (xs : List Nat) (k : List Nat → α), fNats xs k = k xs
  | [], k => rfl
  | x :: xs, k => by unfold fNats; rw [fNat_eq, fNats_eq xs]
mutual
def fMV : MV → (MV → α) → α
  | .non, k => k .non
  | .bl b, k => fBool b fun b => k (.bl b)
  | .int i, k => fInt i fun i => k (.int i)
  | .str s, k => fNats s fun s => k (.str s)
  | .tup xs, k => fMVs xs fun xs => k (.tup xs)
  | .ref a, k => fNat a fun a => k (.ref a)
  | .cls c, k => k (.cls c)
  | .exc c fs, k => fFs fs fun fs => k (.exc c fs)
  | .frl xs, k => fMVs xs fun xs => k (.frl xs)
  | .wrl xs, k => k (.wrl xs)
  | .frd kvs, k => k (.frd kvs)
  | .obj c fs, k => fFs fs fun fs => k (.obj c fs)
def fMVs : List MV → (List MV → α) → α
  | [], k => k []
  | x :: xs, k => fMV x fun x => fMVs xs fun xs => k (x :: xs)
def fFs : List (Nat × MV) → (List (Nat × MV) → α) → α
  | [], k => k []
  | (f, x) :: xs, k => fMV x fun x => fFs xs fun xs => k ((f, x) :: xs)
end
mutual
theorem fMV_eq : ∀ (x : MV) (k : MV → α), fMV x k = k x
  | .non, k => by unfold fMV; rfl
  | .bl b, k => by unfold fMV; exact fBool_eq _ _
  | .int i, k => by unfold fMV; exact fInt_eq _ _
  | .str s, k => by unfold fMV; exact fNats_eq _ _
  | .tup xs, k => by unfold fMV; exact fMVs_eq _ _
  | .ref a, k => by unfold fMV; exact fNat_eq _ _
  | .cls c, k => by unfold fMV; rfl
  | .exc c fs, k => by unfold fMV; exact fFs_eq _ _
  | .frl xs, k => by unfold fMV; exact fMVs_eq _ _
  | .wrl xs, k => by unfold fMV; rfl
  | .frd kvs, k => by unfold fMV; rfl
  | .obj c fs, k => by unfold fMV; exact fFs_eq _ _
theorem fMVs_eq : ∀ (x : List MV) (k : List MV → α), fMVs x k = k x
  | [], k => by unfold fMVs; rfl
  | x :: xs, k => by unfold fMVs; rw [fMV_eq x, fMVs_eq xs]
theorem fFs_eq : ∀ (x : List (Nat × MV)) (k : List (Nat × MV) → α), fFs x k = k x
  | [], k => by unfold fFs; rfl
  | (f, x) :: xs, k => by unfold fFs; rw [fMV_eq x, fFs_eq xs]
end
/-- the spine of a list -/
def fSp {β : Type} : List β → (List β → α) → α
  | [], k => k []
  | x :: xs, k => fSp xs fun xs => k (x :: xs)
theorem fSp_eq {β : Type} : ∀ (xs : List β) (k : List β → α), fSp xs k = k xs
  | [], k => rfl
  | x :: xs, k => by unfold fSp; rw [fSp_eq xs]
def fMO (o : Option MO) (k : Option MO → α) : α := match o with
  | none => k none
  | some (.lst xs) => fSp xs fun xs => k (some (.lst xs))
  | some (.dic xs) => fSp xs fun xs => k (some (.dic xs))
  | some (.ins c xs) => fSp xs fun xs => k (some (.ins c xs))
theorem fMO_eq (o : Option MO) (k : Option MO → α) : fMO o k = k o := by
  unfold fMO
  split <;> first | rfl | exact fSp_eq _ _
def fTr : Nat → Tr → Nat → (Tr → α) → α
  | 0, t, _, k => k t
  | f + 1, t, a, k => match t with
    | .nil => k .nil
    | .node o l r => match a with
      | 0 => fMO o fun o => k (.node o l r)
      | b + 1 => match b % 2 with
        | 0 => fNat (b / 2) fun c => fTr f l c fun l => k (.node o l r)
        | _ => fNat (b / 2) fun c => fTr f r c fun r => k (.node o l r)
theorem fTr_eq : ∀ (f : Nat) (t : Tr) (a : Nat) (k : Tr → α), fTr f t a k = k t
  | 0, _, _, _ => rfl
  | f + 1, t, a, k => by
    unfold fTr
    split
    · rfl
    · split
      · exact fMO_eq _ _
      · split <;> (rw [fNat_eq, fTr_eq f])
/-- a heap that may differ at a alone -/
def fHp (h : MHp) (a : Nat) (k : MHp → α) : α := match h with
  | ⟨t, n, m⟩ => fNat n fun n => fNat m fun m => fTr n t a fun t => k ⟨t, n, m⟩
theorem fHp_eq (h : MHp) (a : Nat) (k : MHp → α) : fHp h a k = k h := by
  cases h
  unfold fHp
  dsimp only
  rw [fNat_eq, fNat_eq, fTr_eq]
def fNew (n0 : Nat) (h : MHp) (k : MHp → α) : α := match Nat.beq h.n n0 with
  | true => k h
  | false => fHp h n0 k
theorem fNew_eq (n0 : Nat) (h : MHp) (k : MHp → α) : fNew n0 h k = k h := by
  unfold fNew
  split
  · rfl
  · exact fHp_eq _ _ _
def frSet : Fr → Nat → Option MV → (Fr → α) → α
  | [], _, _, k => k []
  | x :: r, 0, v, k => k (v :: r)
  | x :: r, i + 1, v, k => frSet r i v fun r => k (x :: r)
theorem frSet_eq : ∀ (fr : Fr) (i : Nat) (v : Option MV) (k : Fr → α), frSet fr i v k = k (fr.set i v)
  | [], _, _, _ => rfl
  | x :: r, 0, v, k => rfl
  | x :: r, i + 1, v, k => by unfold frSet; rw [frSet_eq r i v]; rfl
end
theorem R.el_bind {α β : Type} (x : R α) (k : α → MHp → R β) (kk : β → MHp → Bool) (kx : KV) : (x.bind k).el kk kx = x.el (fun a h => (k a h).el kk kx) kx := by cases x <;> rfl
/-- an operation that may push -/
def opK (h0 : MHp) (r : R MV) (k kx : KV) : Bool := match r with
  | .ok v h => fMV v fun v => fNew h0.n h fun h => k v h
  | .ex e h => kx e h
  | .no => false
theorem opK_eq (h0 : MHp) (r : R MV) (k kx : KV) : opK h0 r k kx = r.el k kx := by
  cases r <;> first | rfl | (unfold opK; dsimp only; rw [fMV_eq, fNew_eq]; rfl)
def getK (x : Option MV) (h : MHp) (k : KV) : Bool := match x with
  | some v => fMV v fun v => k v h
  | none => false
theorem getK_eq (x : Option MV) (h : MHp) (k kx : KV) : getK x h k = (R.get x h).el k kx := by
  cases x <;> first | rfl | exact fMV_eq _ _
def blK (x : Option Bool) (h : MHp) (k : KV) : Bool := match x with
  | some true => k (.bl true) h
  | some false => k (.bl false) h
  | none => false
theorem blK_eq (x : Option Bool) (h : MHp) (k kx : KV) : blK x h k = (R.get (x.map MV.bl) h).el k kx := by
  cases x with
  | none => rfl
  | some b => cases b <;> rfl
/-- what the compiled code may ask -/
structure Dk where
  call : Nat → List MV → MHp → KV → KV → Bool
  ds : Ds
structure DkOk (K : Dk) : Prop where
  call : ∀ f vs h k kx, K.call f vs h k kx = (K.ds.call f vs h).el k kx
variable (K : Dk)
def forC (src : Src) (body : MV → Fr → MHp → KC → Bool) : Nat → Nat → Fr → MHp → KC → Bool
  | 0, _, _, _, _ => false
  | f + 1, i, fr, h, k => match src.item i h with
    | none => false
    | some none => k (.nx fr) h
    | some (some x) => fMV x fun x => body x fr h fun c h => match c with
      | .nx fr => fNat (i + 1) fun j => forC src body f j fr h k
      | .ct fr => fNat (i + 1) fun j => forC src body f j fr h k
      | .bk fr => k (.nx fr) h
      | .rt v => k (.rt v) h
      | .xx e fr => k (.xx e fr) h
def lcC (src : Src) (turn : MV → MHp → (Option MV → MHp → Bool) → Bool) : Nat → Nat → List MV → MHp → (List MV → MHp → Bool) → Bool
  | 0, _, _, _, _ => false
  | f + 1, i, acc, h, k => match src.item i h with
    | none => false
    | some none => k acc h
    | some (some x) => fMV x fun x => turn x h fun o h => match o with
      | none => fNat (i + 1) fun j => lcC src turn f j acc h k
      | some y => match Nat.blt acc.length lineN with
        | true => fSp (acc ++ [y]) fun acc => fNat (i + 1) fun j => lcC src turn f j acc h k
        | false => false
def whC (test : Fr → MHp → (Bool → MHp → Bool) → KV → Bool) (body : Fr → MHp → KC → Bool) : Nat → Fr → MHp → KC → Bool
  | 0, _, _, _ => false
  | f + 1, fr, h, k => test fr h (fun b h => match b with
      | true => body fr h fun c h => match c with
        | .nx fr => whC test body f fr h k
        | .ct fr => whC test body f fr h k
        | .bk fr => k (.nx fr) h
        | .rt v => k (.rt v) h
        | .xx e fr => k (.xx e fr) h
      | false => k (.nx fr) h) fun e h => k (.xx e fr) h
/-- an end of a statement; what is left of a raise in a place where none may be is false -/
def R.elC (r : R Ctl) (k : KC) : Bool := match r with
  | .ok c h => k c h
  | _ => false
def wipeK {α : Type} (fr : Fr) : List Nat → (Fr → α) → α
  | [], k => k fr
  | v :: vs, k => wipeK fr vs fun fr => frSet fr v none k
theorem wipeK_eq {α : Type} (fr : Fr) : ∀ (vs : List Nat) (k : Fr → α), wipeK fr vs k = k (wipeF fr vs)
  | [], k => rfl
  | v :: vs, k => by unfold wipeK; rw [wipeK_eq fr vs, frSet_eq]; rfl
def noX : KV := fun _ _ => false
mutual
def cE : E → Fr → MHp → KV → KV → Bool
  | .var i, fr, h, k, _ => match fr.at i with
    | some v => k v h
    | none => false
  | .lit v, _, h, k, _ => k v h
  | .gv _ v, _, h, k, _ => k v h
  | .tup es, fr, h, k, kx => cEs es fr h (fun vs h => match Nat.ble vs.length lineN with
    | true => k (.tup vs) h
    | false => false) kx
  | .lst z es, fr, h, k, kx => cEs es fr h (fun vs h0 => opK h0 (newL z vs h0) k kx) kx
  | .bin z op a b, fr, h, k, kx => cE a fr h (fun x h => cE b fr h (fun y h0 => opK h0 (binM z op x y h0) k kx) kx) kx
  | .cmp op a b, fr, h, k, kx => cE a fr h (fun x h => cE b fr h (fun y h => blK (cmpM op x y h) h k) kx) kx
  | .chain o1 o2 a b c, fr, h, k, kx => cE a fr h (fun x h => cE b fr h (fun y h => match cmpM o1 x y h with
    | some true => cE c fr h (fun z h => blK (cmpM o2 y z h) h k) kx
    | some false => k (.bl false) h
    | none => false) kx) kx
  | .neg a, fr, h, k, kx => cE a fr h (fun x h => match x with
    | .int i => fInt (-i) fun i => k (.int i) h
    | _ => false) kx
  | .not a, fr, h, k, kx => cE a fr h (fun x h => match truM x h with
    | some true => k (.bl false) h
    | some false => k (.bl true) h
    | none => false) kx
  | .and a b, fr, h, k, kx => cE a fr h (fun x h => match truM x h with
    | some true => cE b fr h k kx
    | some false => k x h
    | none => false) kx
  | .or a b, fr, h, k, kx => cE a fr h (fun x h => match truM x h with
    | some true => k x h
    | some false => cE b fr h k kx
    | none => false) kx
  | .ite c a b, fr, h, k, kx => cE c fr h (fun x h => match truM x h with
    | some true => cE a fr h k kx
    | some false => cE b fr h k kx
    | none => false) kx
  | .idx a i, fr, h, k, kx => cE a fr h (fun x h => cE i fr h (fun y h => getK (idxM x y h) h k) kx) kx
  | .slice z a lo hi, fr, h, k, kx => cE a fr h (fun x h => cO lo fr h (fun l h => cO hi fr h (fun u h0 => opK h0 (sliceM z x l u h0) k kx) kx) kx) kx
  | .rev z a, fr, h, k, kx => cE a fr h (fun x h0 => match listOf x h0 with
      | some s => opK h0 (newL z s.reverse h0) k kx
      | none => false) kx
  | .fld a f, fr, h, k, kx => cE a fr h (fun x h => getK (fldM K.ds x f h) h k) kx
  | .call f es, fr, h, k, kx => cEs es fr h (fun vs h => K.call f vs h k kx) kx
  | .mkexc c es, fr, h, k, kx => cEs es fr h (fun vs h0 => opK h0 (if c < K.ds.nx ∧ vs.length = excN (K.ds.efs c) then (match excFs (K.ds.efs c) vs with
    | some fs => .ok (.exc c fs) h0
    | none => .no) else .no) k kx) kx
  | .isin a ts, fr, h, k, kx => cE a fr h (fun x h => blK (tyAny K.ds x h ts) h k) kx
  | .bi z b es, fr, h, k, kx => cEs es fr h (fun vs h0 => opK h0 (biM z b vs h0) k kx) kx
  | .bm b o es, fr, h, k, kx => cE o fr h (fun x h => match bmPre b x h with
    | true => cEs es fr h (fun vs h => match bmM b x vs h with
      | .ok v h' => match x with
        | .ref a => fHp h' a fun h' => fMV v fun v => k v h'
        | _ => k v h'
      | .ex e h => kx e h
      | .no => false) kx
    | false => false) kx
  | .split z o s _ ps, fr, h, k, kx => cE o fr h (fun x h0 => match x with
    | .str t => opK h0 (if t = s then newL z (ps.map .str) h0 else .no) k kx
    | _ => false) kx
  | .lc z e tg it c own, fr, h, k, kx => cI it fr h (fun src h => wipeK fr own fun fr0 =>
      lcC src (fun x h kt => cT tg x fr0 h fun fr h => cC c fr h (fun b h => match b with
        | true => cE e fr h (fun y h => kt (some y) h) noX
        | false => kt none h) noX) (src.fuel h) 0 [] h fun xs h0 => opK h0 (newL z xs h0) k kx) kx
  | .frz i, fr, h, k, _ => match fr.at i with
    | some (.ref a) => match h.get a with
      | some (.lst xs) => fHp (h.del a) a fun h => k (.frl xs) h
      | _ => false
    | _ => false
  | .nope, _, _, _, _ => false
def cEs : Es → Fr → MHp → (List MV → MHp → Bool) → KV → Bool
  | .nil, _, h, k, _ => k [] h
  | .cons e r, fr, h, k, kx => cE e fr h (fun x h => cEs r fr h (fun xs h => k (x :: xs) h) kx) kx
  | .star e r, fr, h, k, kx => cE e fr h (fun x h => match seqOf x h with
    | some ys => cEs r fr h (fun xs h => fSp (ys ++ xs) fun zs => k zs h) kx
    | none => false) kx
def cO : Eo → Fr → MHp → (Option Int → MHp → Bool) → KV → Bool
  | .none, _, h, k, _ => k none h
  | .some e, fr, h, k, kx => cE e fr h (fun x h => match x with
    | .int i => k (some i) h
    | _ => false) kx
def cC : Eo → Fr → MHp → (Bool → MHp → Bool) → KV → Bool
  | .none, _, h, k, _ => k true h
  | .some e, fr, h, k, kx => cE e fr h (fun x h => match truM x h with
    | some true => k true h
    | some false => k false h
    | none => false) kx
def cI : It → Fr → MHp → (Src → MHp → Bool) → KV → Bool
  | .val e, fr, h, k, kx => cE e fr h (fun x h => match srcOf x h with
    | some s => k s h
    | none => false) kx
  | .range1 e, fr, h, k, kx => cE e fr h (fun x h => match x with
    | .int j => if -(2 ^ 62) ≤ j ∧ j < 2 ^ 62 then fMVs (rangeL 0 j.toNat) fun xs => k (.items xs) h else false
    | _ => false) kx
  | .range2 a b, fr, h, k, kx => cE a fr h (fun x h => cE b fr h (fun y h => match x, y with
    | .int i, .int j => if -(2 ^ 62) ≤ i ∧ i < 2 ^ 62 ∧ -(2 ^ 62) ≤ j ∧ j < 2 ^ 62 then fMVs (rangeL i (j - i).toNat) fun xs => k (.items xs) h else false
    | _, _ => false) kx) kx
  | .enum _, _, _, _, _ => false
  | .zip a b, fr, h, k, kx => cE a fr h (fun x h => cE b fr h (fun y h => match x, y with
    | .tup xs, .tup ys => k (.zipT xs ys) h
    | _, _ => false) kx) kx
/-- a store; nothing may be raised there -/
def cT : Tg → MV → Fr → MHp → (Fr → MHp → Bool) → Bool
  | .v i, x, fr, h, k => frSet fr i (some x) fun fr => k fr h
  | .tup ts, x, fr, h, k => match x with
    | .tup xs => match Nat.beq xs.length (tgsN ts) with
      | true => cTs ts xs fr h k
      | false => false
    | _ => false
  | .sub o i, x, fr, h, k => cE o fr h (fun ov h => cE i fr h (fun iv h => match setIdx ov iv x h with
      | .ok _ h' => match ov with
        | .ref a => fHp h' a fun h' => k fr h'
        | _ => k fr h'
      | _ => false) noX) noX
  | .at o f, x, fr, h, k => cE o fr h (fun ov h => match setFld ov f x h with
      | .ok _ h' => match ov with
        | .ref a => fHp h' a fun h' => k fr h'
        | _ => k fr h'
      | _ => false) noX
def cTs : Tgs → List MV → Fr → MHp → (Fr → MHp → Bool) → Bool
  | .nil, xs, fr, h, k => match xs with
    | [] => k fr h
    | _ => false
  | .cons t r, xs, fr, h, k => match xs with
    | x :: xs => cT t x fr h fun fr h => cTs r xs fr h k
    | [] => false
end
mutual
def cS : S → Fr → MHp → KC → Bool
  | .expr e, fr, h, k => cE K e fr h (fun _ h => k (.nx fr) h) fun e h => k (.xx e fr) h
  | .asg t e, fr, h, k => cE K e fr h (fun x h => cT K t x fr h fun fr h => k (.nx fr) h) fun e h => k (.xx e fr) h
  | .aug op i e, fr, h, k => match fr.at i with
    | some x => cE K e fr h (fun y h0 => opK h0 (binM true op x y h0) (fun z h => frSet fr i (some z) fun fr => k (.nx fr) h) noX) fun e h => k (.xx e fr) h
    | none => false
  | .ite c a b, fr, h, k => cE K c fr h (fun x h => match truM x h with
    | some true => cSs a fr h k
    | some false => cSs b fr h k
    | none => false) fun e h => k (.xx e fr) h
  | .for_ t it b, fr, h, k => cI K it fr h (fun src h => forC src (fun x fr h k => cT K t x fr h fun fr h => cSs b fr h k) (src.fuel h) 0 fr h k) fun e h => k (.xx e fr) h
  | .while_ c b, fr, h, k => whC (fun fr h k kx => cE K c fr h (fun x h => match truM x h with
    | some true => k true h
    | some false => k false h
    | none => false) kx) (fun fr h k => cSs b fr h k) turnsN fr h k
  | .ret e, fr, h, k => match e with
    | .none => k (.rt .non) h
    | .some e => cE K e fr h (fun v h => k (.rt v) h) fun e h => k (.xx e fr) h
  | .pass, fr, h, k => k (.nx fr) h
  | .brk, fr, h, k => k (.bk fr) h
  | .cont, fr, h, k => k (.ct fr) h
  | .nope, _, _, _ => false
def cSs : Ss → Fr → MHp → KC → Bool
  | .nil, fr, h, k => k (.nx fr) h
  | .cons s r, fr, h, k => cS s fr h fun c h => match c with
    | .nx fr => cSs r fr h k
    | .rt v => k (.rt v) h
    | .bk fr => k (.bk fr) h
    | .ct fr => k (.ct fr) h
    | .xx e fr => k (.xx e fr) h
end

theorem fHp_mk (h : MHp) (a : Nat) (k : MHp → Bool) : fHp h a k = k h := fHp_eq h a k
theorem el_ok {α : Type} (a : α) (h : MHp) (k : α → MHp → Bool) (kx : KV) : (R.ok a h).el k kx = k a h := rfl
theorem el_no {α : Type} (k : α → MHp → Bool) (kx : KV) : (R.no : R α).el k kx = false := rfl
theorem el_get {α : Type} (x : Option α) (h : MHp) (k : α → MHp → Bool) (kx : KV) : (R.get x h).el k kx = (match x with | some v => k v h | none => false) := by cases x <;> rfl
theorem el_calm {α β : Type} (x : R α) (k : α → MHp → R β) (kk : β → MHp → Bool) (kx : KV) : (x.calm k).el kk kx = x.el (fun a h => (k a h).el kk kx) noX := by cases x <;> rfl
theorem el_lift {α : Type} (x : R α) (fr : Fr) (k : α → MHp → R Ctl) (kk : KC) (kx : KV) : (x.lift fr k).el kk kx = x.el (fun a h => (k a h).el kk kx) fun e h => kk (.xx e fr) h := by cases x <;> rfl
theorem forC_eq {src : Src} {bk : MV → Fr → MHp → KC → Bool} {body : MV → Fr → MHp → R Ctl} (hb : ∀ x fr h k, bk x fr h k = (body x fr h).el k noX) : ∀ (n i : Nat) (fr : Fr) (h : MHp) (k : KC) (kx : KV), forC src bk n i fr h k = (forL src body n i fr h).el k kx
  | 0, _, _, _, _, _ => rfl
  | n + 1, i, fr, h, k, kx => by
    unfold forC forL
    cases src.item i h with
    | none => rfl
    | some o =>
    cases o with
    | none => rfl
    | some x =>
      dsimp only
      rw [fMV_eq, hb, el_calm]
      congr 1
      funext c h1
      cases c with
      | nx fr => dsimp only; rw [fNat_eq]; exact forC_eq hb n (i + 1) fr h1 k kx
      | ct fr => dsimp only; rw [fNat_eq]; exact forC_eq hb n (i + 1) fr h1 k kx
      | _ => rfl
theorem lcC_eq {src : Src} {tk : MV → MHp → (Option MV → MHp → Bool) → Bool} {turn : MV → MHp → R (Option MV)} (hb : ∀ x h k, tk x h k = (turn x h).el k noX) : ∀ (n i : Nat) (acc : List MV) (h : MHp) (k : List MV → MHp → Bool) (kx : KV), lcC src tk n i acc h k = (lcL src turn n i acc h).el k kx
  | 0, _, _, _, _, _ => rfl
  | n + 1, i, acc, h, k, kx => by
    unfold lcC lcL
    cases src.item i h with
    | none => rfl
    | some o =>
    cases o with
    | none => rfl
    | some x =>
      dsimp only
      rw [fMV_eq, hb, el_calm]
      congr 1
      funext o h1
      cases o with
      | none => dsimp only; rw [fNat_eq]; exact lcC_eq hb n (i + 1) acc h1 k kx
      | some y =>
        dsimp only
        by_cases hl : acc.length < lineN
        · rw [if_pos hl, show Nat.blt acc.length lineN = true from Nat.blt_eq.mpr hl]
          dsimp only
          rw [fSp_eq, fNat_eq]
          exact lcC_eq hb n (i + 1) _ h1 k kx
        · rw [if_neg hl, show Nat.blt acc.length lineN = false from Bool.eq_false_iff.mpr fun z => hl (Nat.blt_eq.mp z)]
          rfl
theorem whC_eq {tk : Fr → MHp → (Bool → MHp → Bool) → KV → Bool} {bk : Fr → MHp → KC → Bool} {test : Fr → MHp → R Bool} {body : Fr → MHp → R Ctl} (ht : ∀ fr h k kx, tk fr h k kx = (test fr h).el k kx) (hb : ∀ fr h k, bk fr h k = (body fr h).el k noX) :
    ∀ (n : Nat) (fr : Fr) (h : MHp) (k : KC) (kx : KV), whC tk bk n fr h k = (whileL test body n fr h).el k kx
  | 0, _, _, _, _ => rfl
  | n + 1, fr, h, k, kx => by
    unfold whC whileL
    rw [ht, el_lift]
    congr 1
    funext b h1
    cases b with
    | false => rfl
    | true =>
      simp only [if_true]
      rw [hb, el_calm]
      congr 1
      funext c h2
      cases c with
      | nx fr => exact whC_eq ht hb n fr h2 k kx
      | ct fr => exact whC_eq ht hb n fr h2 k kx
      | _ => rfl
theorem opK_el (h0 : MHp) (r : R MV) (k kx : KV) : opK h0 r k kx = r.el k kx := opK_eq h0 r k kx
variable {K : Dk}
mutual
theorem cE_eq (O : DkOk K) : ∀ (e : E) (fr : Fr) (h : MHp) (k kx : KV), cE K e fr h k kx = (evE K.ds e fr h).el k kx
  | .var i, fr, h, k, kx => by unfold cE evE; rw [el_get]; cases fr.at i <;> rfl
  | .lit v, fr, h, k, kx => by unfold cE evE; rfl
  | .gv _ v, fr, h, k, kx => by unfold cE evE; rfl
  | .tup es, fr, h, k, kx => by
    unfold cE evE
    rw [cEs_eq O, R.el_bind]
    congr 1
    funext vs h1
    by_cases hl : vs.length ≤ lineN
    · rw [if_pos hl, show Nat.ble vs.length lineN = true from Nat.ble_eq.mpr hl]; rfl
    · rw [if_neg hl, show Nat.ble vs.length lineN = false from Bool.eq_false_iff.mpr fun z => hl (Nat.ble_eq.mp z)]; rfl
  | .lst z es, fr, h, k, kx => by
    unfold cE evE
    rw [cEs_eq O, R.el_bind]
    simp only [opK_eq]
  | .bin z op a b, fr, h, k, kx => by
    unfold cE evE
    simp only [cE_eq O a, cE_eq O b, R.el_bind, opK_eq]
  | .cmp op a b, fr, h, k, kx => by
    unfold cE evE
    simp only [cE_eq O a, cE_eq O b, R.el_bind, blK_eq _ _ _ kx]
  | .chain o1 o2 a b c, fr, h, k, kx => by
    unfold cE evE
    simp only [cE_eq O a, cE_eq O b, cE_eq O c, R.el_bind, blK_eq _ _ _ kx]
    congr 1
    funext x h1
    congr 1
    funext y h2
    cases cmpM o1 x y h2 with
    | none => rfl
    | some b => cases b <;> simp only [R.el_bind] <;> rfl
  | .neg a, fr, h, k, kx => by
    unfold cE evE
    simp only [cE_eq O a, R.el_bind, fInt_eq]
    congr 1
    funext x h1
    cases x <;> rfl
  | .not a, fr, h, k, kx => by
    unfold cE evE
    simp only [cE_eq O a, R.el_bind, el_get]
    congr 1
    funext x h1
    cases truM x h1 with
    | none => rfl
    | some b => cases b <;> rfl
  | .and a b, fr, h, k, kx => by
    unfold cE evE
    simp only [cE_eq O a, cE_eq O b, R.el_bind]
    congr 1
    funext x h1
    cases truM x h1 with
    | none => rfl
    | some b => cases b <;> rfl
  | .or a b, fr, h, k, kx => by
    unfold cE evE
    simp only [cE_eq O a, cE_eq O b, R.el_bind]
    congr 1
    funext x h1
    cases truM x h1 with
    | none => rfl
    | some b => cases b <;> rfl
  | .ite c a b, fr, h, k, kx => by
    unfold cE evE
    simp only [cE_eq O a, cE_eq O b, cE_eq O c, R.el_bind]
    congr 1
    funext x h1
    cases truM x h1 with
    | none => rfl
    | some b => cases b <;> rfl
  | .idx a i, fr, h, k, kx => by
    unfold cE evE
    simp only [cE_eq O a, cE_eq O i, R.el_bind, getK_eq _ _ _ kx]
  | .slice z a lo hi, fr, h, k, kx => by
    unfold cE evE
    simp only [cE_eq O a, cO_eq O lo, cO_eq O hi, R.el_bind, opK_eq]
  | .rev z a, fr, h, k, kx => by
    unfold cE evE
    simp only [cE_eq O a, R.el_bind, opK_eq]
    congr 1
    funext x h1
    cases listOf x h1 <;> rfl
  | .fld a f, fr, h, k, kx => by
    unfold cE evE
    simp only [cE_eq O a, R.el_bind, getK_eq _ _ _ kx]
  | .call f es, fr, h, k, kx => by
    unfold cE evE
    simp only [cEs_eq O es, R.el_bind, O.call]
  | .mkexc c es, fr, h, k, kx => by
    unfold cE evE
    simp only [cEs_eq O es, R.el_bind, opK_eq]
    all_goals rfl
  | .isin a ts, fr, h, k, kx => by
    unfold cE evE
    simp only [cE_eq O a, R.el_bind, blK_eq _ _ _ kx]
  | .bi z b es, fr, h, k, kx => by
    unfold cE evE
    simp only [cEs_eq O es, R.el_bind, opK_eq]
  | .bm b o es, fr, h, k, kx => by
    unfold cE evE
    simp only [cE_eq O o, cEs_eq O es, R.el_bind]
    congr 1
    funext x h1
    cases bmPre b x h1 with
    | false => rfl
    | true =>
      simp only [if_true, R.el_bind]
      congr 1
      funext vs h2
      cases bmM b x vs h2 with
      | no => rfl
      | ex e h3 => rfl
      | ok v h3 =>
        dsimp only
        split
        · rw [fHp_eq, fMV_eq]; rfl
        · rfl
  | .split z o s t ps, fr, h, k, kx => by
    unfold cE evE
    simp only [cE_eq O o, R.el_bind, opK_eq]
    congr 1
    funext x h1
    cases x <;> rfl
  | .lc z e tg it c own, fr, h, k, kx => by
    unfold cE evE
    simp only [cI_eq O it, R.el_bind, wipeK_eq, opK_eq]
    congr 1
    funext src h1
    rw [lcC_eq (kx := kx)]
    intro x h2 kt
    simp only [cT_eq O tg, cC_eq O c, cE_eq O e, R.el_bind]
    congr 1
    funext fr2 h3
    congr 1
    funext b h4
    cases b with
    | false => rfl
    | true => simp only [if_true, R.el_bind]; rfl
  | .frz i, fr, h, k, kx => by
    unfold cE evE
    cases fr.at i with
    | none => rfl
    | some x =>
    cases x <;> try rfl
    rename_i a
    dsimp only
    cases h.get a with
    | none => rfl
    | some o =>
    cases o <;> first | rfl | (dsimp only; rw [fHp_eq]; rfl)
  | .nope, fr, h, k, kx => by unfold cE evE; rfl
theorem cEs_eq (O : DkOk K) : ∀ (es : Es) (fr : Fr) (h : MHp) (k : List MV → MHp → Bool) (kx : KV), cEs K es fr h k kx = (evEs K.ds es fr h).el k kx
  | .nil, fr, h, k, kx => by unfold cEs evEs; rfl
  | .cons e r, fr, h, k, kx => by
    unfold cEs evEs
    simp only [cE_eq O e, cEs_eq O r, R.el_bind]
    rfl
  | .star e r, fr, h, k, kx => by
    unfold cEs evEs
    simp only [cE_eq O e, cEs_eq O r, R.el_bind, fSp_eq]
    congr 1
    funext x h1
    cases seqOf x h1 with
    | none => rfl
    | some ys => simp only [R.el_bind]; rfl
theorem cO_eq (O : DkOk K) : ∀ (e : Eo) (fr : Fr) (h : MHp) (k : Option Int → MHp → Bool) (kx : KV), cO K e fr h k kx = (evO K.ds e fr h).el k kx
  | .none, fr, h, k, kx => by unfold cO evO; rfl
  | .some e, fr, h, k, kx => by
    unfold cO evO
    simp only [cE_eq O e, R.el_bind]
    congr 1
    funext x h1
    cases x <;> rfl
theorem cC_eq (O : DkOk K) : ∀ (e : Eo) (fr : Fr) (h : MHp) (k : Bool → MHp → Bool) (kx : KV), cC K e fr h k kx = (evC K.ds e fr h).el k kx
  | .none, fr, h, k, kx => by unfold cC evC; rfl
  | .some e, fr, h, k, kx => by
    unfold cC evC
    simp only [cE_eq O e, R.el_bind, el_get]
    congr 1
    funext x h1
    cases truM x h1 with
    | none => rfl
    | some b => cases b <;> rfl
theorem cI_eq (O : DkOk K) : ∀ (e : It) (fr : Fr) (h : MHp) (k : Src → MHp → Bool) (kx : KV), cI K e fr h k kx = (evI K.ds e fr h).el k kx
  | .val e, fr, h, k, kx => by
    unfold cI evI
    simp only [cE_eq O e, R.el_bind, el_get]
    congr 1
    funext x h1
    cases srcOf x h1 <;> rfl
  | .range1 e, fr, h, k, kx => by
    unfold cI evI
    simp only [cE_eq O e, R.el_bind, fMVs_eq]
    congr 1
    funext x h1
    cases x <;> try rfl
    dsimp only
    split <;> rfl
  | .range2 a b, fr, h, k, kx => by
    unfold cI evI
    simp only [cE_eq O a, cE_eq O b, R.el_bind, fMVs_eq]
    congr 1
    funext x h1
    congr 1
    funext y h2
    cases x <;> cases y <;> try rfl
    dsimp only
    split <;> rfl
  | .enum _, fr, h, k, kx => by unfold cI evI; rfl
  | .zip a b, fr, h, k, kx => by
    unfold cI evI
    simp only [cE_eq O a, cE_eq O b, R.el_bind]
    congr 1
    funext x h1
    congr 1
    funext y h2
    cases x <;> cases y <;> rfl
theorem cT_eq (O : DkOk K) : ∀ (t : Tg) (x : MV) (fr : Fr) (h : MHp) (k : Fr → MHp → Bool), cT K t x fr h k = (evT K.ds t x fr h).el k noX
  | .v i, x, fr, h, k => by unfold cT evT; rw [frSet_eq]; rfl
  | .tup ts, x, fr, h, k => by
    unfold cT evT
    cases x <;> try rfl
    · rename_i xs
      dsimp only
      by_cases hl : xs.length = tgsN ts
      · rw [if_pos hl, show Nat.beq xs.length (tgsN ts) = true from Nat.beq_eq.mpr hl]
        exact cTs_eq O ts xs fr h k
      · rw [if_neg hl, show Nat.beq xs.length (tgsN ts) = false from Bool.eq_false_iff.mpr fun z => hl (Nat.beq_eq.mp z)]
        rfl
  | .sub o i, x, fr, h, k => by
    unfold cT evT
    simp only [cE_eq O o, cE_eq O i, R.el_bind]
    congr 1
    funext ov h1
    congr 1
    funext iv h2
    cases setIdx ov iv x h2 with
    | no => rfl
    | ex e h3 => rfl
    | ok u h3 =>
      dsimp only
      split
      · rw [fHp_eq]; rfl
      · rfl
  | .at o f, x, fr, h, k => by
    unfold cT evT
    simp only [cE_eq O o, R.el_bind]
    congr 1
    funext ov h1
    cases setFld ov f x h1 with
    | no => rfl
    | ex e h3 => rfl
    | ok u h3 =>
      dsimp only
      split
      · rw [fHp_eq]; rfl
      · rfl
theorem cTs_eq (O : DkOk K) : ∀ (t : Tgs) (x : List MV) (fr : Fr) (h : MHp) (k : Fr → MHp → Bool), cTs K t x fr h k = (evTs K.ds t x fr h).el k noX
  | .nil, xs, fr, h, k => by
    unfold cTs evTs
    cases xs <;> rfl
  | .cons t r, xs, fr, h, k => by
    unfold cTs evTs
    cases xs with
    | nil => rfl
    | cons x xs => simp only [cT_eq O t, cTs_eq O r, R.el_bind]
end
mutual
theorem cS_eq (O : DkOk K) : ∀ (s : S) (fr : Fr) (h : MHp) (k : KC) (kx : KV), cS K s fr h k = (exS K.ds s fr h).el k kx
  | .expr e, fr, h, k, kx => by
    unfold cS exS
    simp only [cE_eq O e, el_lift]
    rfl
  | .asg t e, fr, h, k, kx => by
    unfold cS exS
    simp only [cE_eq O e, cT_eq O t, el_lift, el_calm]
    rfl
  | .aug op i e, fr, h, k, kx => by
    unfold cS exS
    cases fr.at i with
    | none => rfl
    | some x =>
      simp only [cE_eq O e, el_lift, el_calm, opK_eq, frSet_eq]
      rfl
  | .ite c a b, fr, h, k, kx => by
    unfold cS exS evTest
    simp only [cE_eq O c, el_lift, R.el_bind, el_get, cSs_eq O a _ _ _ kx, cSs_eq O b _ _ _ kx]
    congr 1
    funext x h1
    cases truM x h1 with
    | none => rfl
    | some b => cases b <;> rfl
  | .for_ t it b, fr, h, k, kx => by
    unfold cS exS
    simp only [cI_eq O it, el_lift]
    congr 1
    funext src h1
    refine forC_eq (fun x fr h k => ?_) _ _ _ _ _ _
    simp only [cT_eq O t, el_calm, cSs_eq O b _ _ _ noX]
  | .while_ c b, fr, h, k, kx => by
    unfold cS exS
    refine whC_eq (fun fr h k kx => ?_) (fun fr h k => cSs_eq O b fr h k noX) _ _ _ _ _
    unfold evTest
    simp only [cE_eq O c, R.el_bind, el_get]
    congr 1
    funext x h1
    cases truM x h1 with
    | none => rfl
    | some b => cases b <;> rfl
  | .ret e, fr, h, k, kx => by
    cases e with
    | none => unfold cS exS; rfl
    | some e => unfold cS exS; simp only [cE_eq O e, el_lift]; rfl
  | .pass, fr, h, k, kx => by unfold cS exS; rfl
  | .brk, fr, h, k, kx => by unfold cS exS; rfl
  | .cont, fr, h, k, kx => by unfold cS exS; rfl
  | .nope, fr, h, k, kx => by unfold cS exS; rfl
theorem cSs_eq (O : DkOk K) : ∀ (s : Ss) (fr : Fr) (h : MHp) (k : KC) (kx : KV), cSs K s fr h k = (exSs K.ds s fr h).el k kx
  | .nil, fr, h, k, kx => by unfold cSs exSs; rfl
  | .cons s r, fr, h, k, kx => by
    unfold cSs exSs
    rw [cS_eq O s _ _ _ noX, el_calm]
    congr 1
    funext c h1
    cases c with
    | nx fr => exact cSs_eq O r fr h1 k kx
    | _ => rfl
end
end G
namespace G
def restK (h0 : MHp) (v : MV) (h : MHp) (k : KV) : Bool := match Nat.ble h0.n h.m with
  | true => match v.under h0.n with
    | true => k v h0
    | false => fNat (h.unmark h0.m).m fun m => k v ⟨h.t, h.n, m⟩
  | false => fNat (h.unmark h0.m).m fun m => k v ⟨h.t, h.n, m⟩
def fcall (defs : List Df) (T : Tab) : Nat → Nat → List MV → MHp → KV → KV → Bool
  | 0, _, _, _, _, _ => false
  | d + 1, f, vs, h, k, kx => match defs[f]? with
    | none => false
    | some df => match Nat.beq vs.length df.np with
      | true => fSp (startFr vs df.ns) fun fr => cSs ⟨fcall defs T d, dsOf defs T d⟩ df.body fr h.mark fun c h' => match c with
        | .rt v => restK h v h' k
        | .nx _ => restK h .non h' k
        | .xx e _ => restK h e h' kx
        | _ => false
      | false => false
theorem restK_eq (h0 : MHp) (v : MV) (h : MHp) (k kx : KV) : restK h0 v h k = ((R.ok v h).rest h0).el k kx := by
  unfold restK R.rest
  simp only [fNat_eq]
  by_cases h1 : h0.n ≤ h.m
  · rw [show Nat.ble h0.n h.m = true from Nat.ble_eq.mpr h1]
    cases q : v.under h0.n with
    | true => rw [if_pos ⟨h1, rfl⟩]; rfl
    | false => rw [if_neg (fun z => by cases z.2)]; rfl
  · rw [show Nat.ble h0.n h.m = false from Bool.eq_false_iff.mpr fun z => h1 (Nat.ble_eq.mp z), if_neg fun z => h1 z.1]; rfl
theorem restX_eq (h0 : MHp) (v : MV) (h : MHp) (k kx : KV) : restK h0 v h kx = ((R.ex v h).rest h0).el k kx := by
  unfold restK R.rest
  simp only [fNat_eq]
  by_cases h1 : h0.n ≤ h.m
  · rw [show Nat.ble h0.n h.m = true from Nat.ble_eq.mpr h1]
    cases q : v.under h0.n with
    | true => rw [if_pos ⟨h1, rfl⟩]; rfl
    | false => rw [if_neg (fun z => by cases z.2)]; rfl
  · rw [show Nat.ble h0.n h.m = false from Bool.eq_false_iff.mpr fun z => h1 (Nat.ble_eq.mp z), if_neg fun z => h1 z.1]; rfl
theorem fcall_eq (defs : List Df) (T : Tab) : ∀ (d f : Nat) (vs : List MV) (h : MHp) (k kx : KV), fcall defs T d f vs h k kx = (callN defs T d f vs h).el k kx
  | 0, _, _, _, _, _ => rfl
  | d + 1, f, vs, h, k, kx => by
    unfold fcall callN
    cases defs[f]? with
    | none => rfl
    | some df =>
      dsimp only
      by_cases hl : vs.length = df.np
      · rw [if_pos hl, show Nat.beq vs.length df.np = true from Nat.beq_eq.mpr hl]
        dsimp only
        rw [fSp_eq, cSs_eq (K := ⟨fcall defs T d, dsOf defs T d⟩) ⟨fun f vs h k kx => fcall_eq defs T d f vs h k kx⟩ df.body _ _ _ noX]
        show _ = (((exSs (dsOf defs T d) df.body (startFr vs df.ns) h.mark).calm endM).rest h).el k kx
        cases exSs (dsOf defs T d) df.body (startFr vs df.ns) h.mark with
        | no => rfl
        | ex e h1 => rfl
        | ok c h1 =>
          cases c with
          | rt v => exact restK_eq h v h1 k kx
          | nx fr => exact restK_eq h .non h1 k kx
          | xx e fr => exact restX_eq h e h1 k kx
          | _ => rfl
      · rw [if_neg hl, show Nat.beq vs.length df.np = false from Bool.eq_false_iff.mpr fun z => hl (Nat.beq_eq.mp z)]
        rfl
/-- a run of the law that the kernel has seen -/
theorem fcall_true {defs : List Df} {T : Tab} {d f : Nat} {vs : List MV} {h : MHp} (e : fcall defs T d f vs h (fun v _ => match v with | .bl true => true | _ => false) noX = true) : ∃ h', callN defs T d f vs h = .ok (.bl true) h' := by
  rw [fcall_eq] at e
  cases q : callN defs T d f vs h with
  | no => rw [q] at e; cases e
  | ex x h1 => rw [q] at e; cases e
  | ok v h1 =>
    rw [q] at e
    cases v <;> try (cases e; done)
    rename_i b
    cases b
    · cases e
    · exact ⟨h1, rfl⟩
/-! ### defs that leave the heap as it is -/
theorem rest_pure {h : MHp} {v : MV} (hu : v.under h.n = true) : (R.ok v h.mark).rest h = .ok v h := by
  unfold R.rest
  exact if_pos ⟨Nat.le_refl _, hu⟩
theorem rest_pureX {h : MHp} {v : MV} (hu : v.under h.n = true) : (R.ex v h.mark).rest h = .ex v h := by
  unfold R.rest
  exact if_pos ⟨Nat.le_refl _, hu⟩
theorem callN_def {defs : List Df} {T : Tab} {d f : Nat} {vs : List MV} {h : MHp} {df : Df} (hd : defs[f]? = some df) (hl : vs.length = df.np) : callN defs T (d + 1) f vs h = ((exSs (dsOf defs T d) df.body (startFr vs df.ns) h.mark).calm endM).rest h := by
  show (match defs[f]? with | none => R.no | some df => _) = _
  rw [hd]
  exact if_pos hl
theorem call_pure {defs : List Df} {T : Tab} {d f : Nat} {vs : List MV} {h : MHp} {df : Df} {v : MV} (hd : defs[f]? = some df) (hl : vs.length = df.np) (hb : ∀ h, exSs (dsOf defs T d) df.body (startFr vs df.ns) h = .ok (.rt v) h) (hu : v.under h.n = true) : callN defs T (d + 1) f vs h = .ok v h := by
  rw [callN_def hd hl, hb]
  exact rest_pure hu
theorem call_pureX {defs : List Df} {T : Tab} {d f : Nat} {vs : List MV} {h : MHp} {df : Df} {v : MV} {fr : Fr} (hd : defs[f]? = some df) (hl : vs.length = df.np) (hb : ∀ h, exSs (dsOf defs T d) df.body (startFr vs df.ns) h = .ok (.xx v fr) h) (hu : v.under h.n = true) : callN defs T (d + 1) f vs h = .ex v h := by
  rw [callN_def hd hl, hb]
  exact rest_pureX hu
end G
set_option linter.all false
set_option maxRecDepth 100000
set_option maxHeartbeats 1000000
/-! What simp knows of a run. -/
namespace G
section
variable {α β : Type} {h : MHp} {D : Ds} {fr : Fr}
@[simp] theorem bind_ok (a : α) (k : α → MHp → R β) : (R.ok a h).bind k = k a h := rfl
@[simp] theorem bind_ex (e : MV) (k : α → MHp → R β) : (R.ex e h : R α).bind k = .ex e h := rfl
@[simp] theorem lift_ok (a : α) (k : α → MHp → R Ctl) : (R.ok a h).lift fr k = k a h := rfl
@[simp] theorem lift_ex (e : MV) (k : α → MHp → R Ctl) : (R.ex e h : R α).lift fr k = .ok (.xx e fr) h := rfl
@[simp] theorem calm_ok (a : α) (k : α → MHp → R β) : (R.ok a h).calm k = k a h := rfl
@[simp] theorem get_some (a : α) : R.get (some a) h = .ok a h := rfl
@[simp] theorem at_nil (i : Nat) : Fr.at [] i = none := rfl
@[simp] theorem at_zero (x : Option MV) (r : Fr) : Fr.at (x :: r) 0 = x := rfl
@[simp] theorem at_succ (x : Option MV) (r : Fr) (i : Nat) : Fr.at (x :: r) (i + 1) = Fr.at r i := rfl
/-! truth -/
@[simp] theorem tru_non : truM .non h = some false := rfl
@[simp] theorem tru_bl (b : Bool) : truM (.bl b) h = some b := rfl
@[simp] theorem tru_int (i : Int) : truM (.int i) h = some (i != 0) := rfl
@[simp] theorem tru_str (s : List Nat) : truM (.str s) h = some (!s.isEmpty) := rfl
@[simp] theorem tru_tup (s : List MV) : truM (.tup s) h = some (!s.isEmpty) := rfl
@[simp] theorem tru_frl (s : List MV) : truM (.frl s) h = some (!s.isEmpty) := rfl
/-! comparisons -/
@[simp] theorem cmp_eq (x y : MV) : cmpM .eq x y h = eqM x y h := rfl
@[simp] theorem cmp_ne (x y : MV) : cmpM .ne x y h = (eqM x y h).map (!·) := rfl
@[simp] theorem cmp_in (x y : MV) : cmpM .isin x y h = inM x y h := rfl
@[simp] theorem cmp_notin (x y : MV) : cmpM .notin x y h = (inM x y h).map (!·) := rfl
@[simp] theorem cmp_is (x : MV) : cmpM .is x .non h = some x.isNon := rfl
@[simp] theorem cmp_isnot (x : MV) : cmpM .isnot x .non h = some (!x.isNon) := rfl
@[simp] theorem cmp_lt (i j : Int) : cmpM .lt (.int i) (.int j) h = some (decide (i < j)) := rfl
@[simp] theorem cmp_le (i j : Int) : cmpM .le (.int i) (.int j) h = some (decide (i ≤ j)) := rfl
@[simp] theorem cmp_gt (i j : Int) : cmpM .gt (.int i) (.int j) h = some (decide (j < i)) := rfl
@[simp] theorem cmp_ge (i j : Int) : cmpM .ge (.int i) (.int j) h = some (decide (j ≤ i)) := rfl
@[simp] theorem isNon_non : MV.isNon .non = true := rfl
@[simp] theorem isNon_bl (b : Bool) : MV.isNon (.bl b) = false := rfl
@[simp] theorem isNon_int (b : Int) : MV.isNon (.int b) = false := rfl
@[simp] theorem isNon_str (b : List Nat) : MV.isNon (.str b) = false := rfl
@[simp] theorem isNon_tup (b : List MV) : MV.isNon (.tup b) = false := rfl
@[simp] theorem isNon_frl (b : List MV) : MV.isNon (.frl b) = false := rfl
@[simp] theorem isNon_ref (b : Nat) : MV.isNon (.ref b) = false := rfl
@[simp] theorem isNon_exc (c : Nat) (fs : List (Nat × MV)) : MV.isNon (.exc c fs) = false := rfl
/-- == of two values that are plain and not deep -/
theorem eqM_plain {x y : MV} (hx : x.plain = true) (hy : y.plain = true) (dx : x.depth < 60) (dy : y.depth < 60) : eqM x y h = some (MV.beq x y) := by
  have e : ∀ z : MV, z.plain = true → snap h z = some z := fun z hz => by
    unfold snap
    split
    · simp [MV.plain] at hz
    · rw [if_pos hz]
  unfold eqM
  rw [e x hx, e y hy]
  simp [eqD, dx, dy]
@[simp] theorem eq_int (i j : Int) : eqM (.int i) (.int j) h = some (decide (i = j)) := rfl
@[simp] theorem eq_str (i j : List Nat) : eqM (.str i) (.str j) h = some (decide (i = j)) := rfl
@[simp] theorem eq_bl (i j : Bool) : eqM (.bl i) (.bl j) h = some (i == j) := rfl
@[simp] theorem eq_bi (i : Bool) (j : Int) : eqM (.bl i) (.int j) h = some (decide ((if i then (1 : Int) else 0) = j)) := rfl
@[simp] theorem eq_ib (i : Int) (j : Bool) : eqM (.int i) (.bl j) h = some (decide (i = (if j then (1 : Int) else 0))) := rfl
@[simp] theorem eq_ns (j : List Nat) : eqM .non (.str j) h = some false := rfl
@[simp] theorem eq_sn (j : List Nat) : eqM (.str j) .non h = some false := rfl
@[simp] theorem eq_nn : eqM .non .non h = some true := rfl
@[simp] theorem eq_is (i : Int) (j : List Nat) : eqM (.int i) (.str j) h = some false := rfl
@[simp] theorem eq_si (i : Int) (j : List Nat) : eqM (.str j) (.int i) h = some false := rfl
/-! items -/
@[simp] theorem seq_tup (xs : List MV) : seqOf (.tup xs) h = some xs := rfl
@[simp] theorem seq_frl (xs : List MV) : seqOf (.frl xs) h = some xs := rfl
@[simp] theorem seq_wrl (xs : List MV) : seqOf (.wrl xs) h = some xs := rfl
theorem seq_ref {a : Nat} {xs : List MV} (e : h.get a = some (.lst xs)) : seqOf (.ref a) h = some xs := by unfold seqOf; dsimp only; rw [e]
@[simp] theorem list_frl (xs : List MV) : listOf (.frl xs) h = some xs := rfl
@[simp] theorem list_wrl (xs : List MV) : listOf (.wrl xs) h = some xs := rfl
theorem list_ref {a : Nat} {xs : List MV} (e : h.get a = some (.lst xs)) : listOf (.ref a) h = some xs := by unfold listOf; dsimp only; rw [e]
@[simp] theorem own_frl (xs : List MV) : ownOf (.frl xs) h = some xs := rfl
theorem own_ref {a : Nat} {xs : List MV} (e : h.get a = some (.lst xs)) : ownOf (.ref a) h = some xs := by unfold ownOf; dsimp only; rw [e]
@[simp] theorem len_str (s : List Nat) : lenM (.str s) h = some s.length := rfl
@[simp] theorem len_tup (s : List MV) : lenM (.tup s) h = some s.length := rfl
@[simp] theorem len_frl (s : List MV) : lenM (.frl s) h = some s.length := rfl
theorem len_ref {a : Nat} {xs : List MV} (e : h.get a = some (.lst xs)) : lenM (.ref a) h = some xs.length := by unfold lenM; dsimp only; rw [e]
/-- an item by its place -/
theorem idx_seq {x : MV} {xs : List MV} {i : Int} {k : Nat} {v : MV} (e : seqOf x h = some xs) (p : placeI i xs.length = some k) (q : xs[k]? = some v) : idxM x (.int i) h = some v := by
  unfold idxM
  dsimp only
  rw [e]
  dsimp only
  rw [p]
  exact q
@[simp] theorem idx_tup (xs : List MV) (i : Int) : idxM (.tup xs) (.int i) h = (placeI i xs.length).bind fun k => xs[k]? := by
  unfold idxM
  simp only [seq_tup]
  cases placeI i xs.length <;> rfl
@[simp] theorem idx_frl (xs : List MV) (i : Int) : idxM (.frl xs) (.int i) h = (placeI i xs.length).bind fun k => xs[k]? := by
  unfold idxM
  simp only [seq_frl]
  cases placeI i xs.length <;> rfl
theorem idx_ref {a : Nat} {xs : List MV} (i : Int) (e : h.get a = some (.lst xs)) : idxM (.ref a) (.int i) h = (placeI i xs.length).bind fun k => xs[k]? := by
  unfold idxM
  simp only [seq_ref e]
  cases placeI i xs.length <;> rfl
theorem place_nat {k n : Nat} (hk : k < n) : placeI (k : Int) n = some k := by
  unfold placeI
  have h1 : (k : Int) < (n : Int) := by omega
  rw [if_pos (by omega), if_pos h1]
  simp
/-! operators -/
@[simp] theorem bin_add (z : Bool) (i j : Int) : binM z .add (.int i) (.int j) h = .ok (.int (i + j)) h := rfl
@[simp] theorem bin_sub (z : Bool) (i j : Int) : binM z .sub (.int i) (.int j) h = .ok (.int (i - j)) h := rfl
@[simp] theorem bin_mul (z : Bool) (i j : Int) : binM z .mul (.int i) (.int j) h = if (-(2 ^ 64) < i ∧ i < 2 ^ 64) ∨ (-(2 ^ 64) < j ∧ j < 2 ^ 64) then .ok (.int (i * j)) h else .no := rfl
@[simp] theorem bin_fdiv (z : Bool) (i j : Int) : binM z .fdiv (.int i) (.int j) h = if 0 < j ∧ j < 1073741824 then .ok (.int (i / j)) h else .no := rfl
@[simp] theorem bin_mod (z : Bool) (i j : Int) : binM z .mod (.int i) (.int j) h = if 0 < j then .ok (.int (i % j)) h else .no := rfl
@[simp] theorem bin_pow (z : Bool) (i j : Int) : binM z .pow (.int i) (.int j) h = if 0 ≤ j ∧ j ≤ 1000000 ∧ i.natAbs < 2 ^ 64 then .ok (.int (i ^ j.toNat)) h else .no := rfl
@[simp] theorem bin_adds (z : Bool) (s t : List Nat) : binM z .add (.str s) (.str t) h = if s.length + t.length ≤ lineN then .ok (.str (s ++ t)) h else .no := rfl
@[simp] theorem bin_addt (z : Bool) (s t : List MV) : binM z .add (.tup s) (.tup t) h = if s ≠ [] ∧ s.length + t.length ≤ lineN then .ok (.tup (s ++ t)) h else .no := rfl
@[simp] theorem bin_addl (z : Bool) (s t : List MV) : binM z .add (.frl s) (.frl t) h = newL z (s ++ t) h := rfl
@[simp] theorem new_frl (xs : List MV) : newL true xs h = if xs.length ≤ lineN then .ok (.frl xs) h else .no := by
  unfold newL
  split <;> rfl
/-! built-ins -/
@[simp] theorem bi_len (z : Bool) (v : MV) : biM z .len [v] h = (match lenM v h with | some n => .ok (.int n) h | none => .no) := rfl
@[simp] theorem bi_list (z : Bool) (v : MV) : biM z .list [v] h = (match seqOf v h with | some xs => newL z xs h | none => .no) := rfl
@[simp] theorem bi_int (z : Bool) (i : Int) : biM z .int [.int i] h = .ok (.int i) h := rfl
@[simp] theorem bi_intb (z : Bool) (b : Bool) : biM z .int [.bl b] h = .ok (.int (if b then 1 else 0)) h := rfl
@[simp] theorem bi_all (z : Bool) (v : MV) : biM z .all [v] h = (match listOf v h with | some xs => (match blsM xs with | some bs => .ok (.bl (bs.all id)) h | none => .no) | none => .no) := rfl
@[simp] theorem bi_any (z : Bool) (v : MV) : biM z .any [v] h = (match listOf v h with | some xs => (match blsM xs with | some bs => .ok (.bl (bs.any id)) h | none => .no) | none => .no) := rfl
/-! expressions -/
@[simp] theorem ev_var (i : Nat) : evE D (.var i) fr h = R.get (fr.at i) h := by (conv => lhs; rw [evE]); try rfl
@[simp] theorem ev_lit (v : MV) : evE D (.lit v) fr h = .ok v h := by (conv => lhs; rw [evE]); try rfl
@[simp] theorem ev_gv (x : Nat) (v : MV) : evE D (.gv x v) fr h = .ok v h := by (conv => lhs; rw [evE]); try rfl
@[simp] theorem ev_tup (es : Es) : evE D (.tup es) fr h = (evEs D es fr h).bind fun vs h => if vs.length ≤ lineN then .ok (.tup vs) h else .no := by (conv => lhs; rw [evE]); try rfl
@[simp] theorem ev_lst (z : Bool) (es : Es) : evE D (.lst z es) fr h = (evEs D es fr h).bind fun vs h => newL z vs h := by (conv => lhs; rw [evE]); try rfl
@[simp] theorem ev_bin (z : Bool) (op : Bo) (a b : E) : evE D (.bin z op a b) fr h = (evE D a fr h).bind fun x h => (evE D b fr h).bind fun y h => binM z op x y h := by (conv => lhs; rw [evE]); try rfl
@[simp] theorem ev_cmp (op : Co) (a b : E) : evE D (.cmp op a b) fr h = (evE D a fr h).bind fun x h => (evE D b fr h).bind fun y h => R.get ((cmpM op x y h).map .bl) h := by (conv => lhs; rw [evE]); try rfl
@[simp] theorem ev_chain (o1 o2 : Co) (a b c : E) : evE D (.chain o1 o2 a b c) fr h = (evE D a fr h).bind fun x h => (evE D b fr h).bind fun y h => match cmpM o1 x y h with
    | some true => (evE D c fr h).bind fun z h => R.get ((cmpM o2 y z h).map .bl) h
    | some false => .ok (.bl false) h
    | none => .no := by (conv => lhs; rw [evE]); try rfl
@[simp] theorem ev_neg (a : E) : evE D (.neg a) fr h = (evE D a fr h).bind fun x h => match x with
    | .int i => .ok (.int (-i)) h
    | _ => .no := by (conv => lhs; rw [evE]); try rfl
@[simp] theorem ev_not (a : E) : evE D (.not a) fr h = (evE D a fr h).bind fun x h => R.get ((truM x h).map fun b => .bl (!b)) h := by (conv => lhs; rw [evE]); try rfl
@[simp] theorem ev_and (a b : E) : evE D (.and a b) fr h = (evE D a fr h).bind fun x h => match truM x h with
    | some true => evE D b fr h
    | some false => .ok x h
    | none => .no := by (conv => lhs; rw [evE]); try rfl
@[simp] theorem ev_or (a b : E) : evE D (.or a b) fr h = (evE D a fr h).bind fun x h => match truM x h with
    | some true => .ok x h
    | some false => evE D b fr h
    | none => .no := by (conv => lhs; rw [evE]); try rfl
@[simp] theorem ev_ite (c a b : E) : evE D (.ite c a b) fr h = (evE D c fr h).bind fun x h => match truM x h with
    | some true => evE D a fr h
    | some false => evE D b fr h
    | none => .no := by (conv => lhs; rw [evE]); try rfl
@[simp] theorem ev_idx (a i : E) : evE D (.idx a i) fr h = (evE D a fr h).bind fun x h => (evE D i fr h).bind fun y h => R.get (idxM x y h) h := by (conv => lhs; rw [evE]); try rfl
@[simp] theorem ev_slice (z : Bool) (a : E) (lo hi : Eo) : evE D (.slice z a lo hi) fr h = (evE D a fr h).bind fun x h => (evO D lo fr h).bind fun l h => (evO D hi fr h).bind fun u h => sliceM z x l u h := by (conv => lhs; rw [evE]); try rfl
@[simp] theorem ev_rev (z : Bool) (a : E) : evE D (.rev z a) fr h = (evE D a fr h).bind fun x h => match listOf x h with
      | some s => newL z s.reverse h
      | none => .no := by (conv => lhs; rw [evE]); try rfl
@[simp] theorem ev_fld (a : E) (f : Nat) : evE D (.fld a f) fr h = (evE D a fr h).bind fun x h => R.get (fldM D x f h) h := by (conv => lhs; rw [evE]); try rfl
@[simp] theorem ev_call (f : Nat) (es : Es) : evE D (.call f es) fr h = (evEs D es fr h).bind fun vs h => D.call f vs h := by (conv => lhs; rw [evE]); try rfl
@[simp] theorem ev_mkexc (c : Nat) (es : Es) : evE D (.mkexc c es) fr h = (evEs D es fr h).bind fun vs h => if c < D.nx ∧ vs.length = excN (D.efs c) then (match excFs (D.efs c) vs with
    | some fs => .ok (.exc c fs) h
    | none => .no) else .no := by (conv => lhs; rw [evE]); try rfl
@[simp] theorem ev_isin (a : E) (ts : List Ty) : evE D (.isin a ts) fr h = (evE D a fr h).bind fun x h => R.get ((tyAny D x h ts).map .bl) h := by (conv => lhs; rw [evE]); try rfl
@[simp] theorem ev_bi (z : Bool) (b : Bi) (es : Es) : evE D (.bi z b es) fr h = (evEs D es fr h).bind fun vs h => biM z b vs h := by (conv => lhs; rw [evE]); try rfl
@[simp] theorem ev_bm (b : Bm) (o : E) (es : Es) : evE D (.bm b o es) fr h = (evE D o fr h).bind fun x h => if bmPre b x h then (evEs D es fr h).bind fun vs h => bmM b x vs h else .no := by (conv => lhs; rw [evE]); try rfl
@[simp] theorem ev_split (z : Bool) (o : E) (s c : List Nat) (ps : List (List Nat)) : evE D (.split z o s c ps) fr h = (evE D o fr h).bind fun x h => match x with
    | .str t => if t = s then newL z (ps.map .str) h else .no
    | _ => .no := by (conv => lhs; rw [evE]); try rfl
theorem ev_frz {i a : Nat} {xs : List MV} (e : fr.at i = some (.ref a)) (q : h.get a = some (.lst xs)) : evE D (.frz i) fr h = .ok (.frl xs) (h.del a) := by
  rw [evE]
  rw [e]
  dsimp only
  rw [q]
@[simp] theorem evs_nil : evEs D .nil fr h = .ok [] h := by (conv => lhs; rw [evEs]); try rfl
@[simp] theorem evs_cons (e : E) (r : Es) : evEs D (.cons e r) fr h = (evE D e fr h).bind fun x h => (evEs D r fr h).bind fun xs h => .ok (x :: xs) h := by (conv => lhs; rw [evEs]); try rfl
@[simp] theorem evo_none : evO D .none fr h = .ok none h := by (conv => lhs; rw [evO]); try rfl
@[simp] theorem evo_some (e : E) : evO D (.some e) fr h = (evE D e fr h).bind fun x h => match x with
    | .int i => .ok (some i) h
    | _ => .no := by (conv => lhs; rw [evO]); try rfl
@[simp] theorem evc_none : evC D .none fr h = .ok true h := by (conv => lhs; rw [evC]); try rfl
@[simp] theorem evc_some (e : E) : evC D (.some e) fr h = (evE D e fr h).bind fun x h => R.get (truM x h) h := by (conv => lhs; rw [evC]); try rfl
@[simp] theorem evi_val (e : E) : evI D (.val e) fr h = (evE D e fr h).bind fun x h => R.get (srcOf x h) h := by (conv => lhs; rw [evI]); try rfl
@[simp] theorem evi_range1 (e : E) : evI D (.range1 e) fr h = (evE D e fr h).bind fun x h => match x with
    | .int j => if -(2 ^ 62) ≤ j ∧ j < 2 ^ 62 then .ok (.items (rangeL 0 j.toNat)) h else .no
    | _ => .no := by (conv => lhs; rw [evI]); try rfl
@[simp] theorem evt_v (i : Nat) (x : MV) : evT D (.v i) x fr h = .ok (fr.set i (some x)) h := by (conv => lhs; rw [evT]); try rfl
@[simp] theorem evt_tup (ts : Tgs) (xs : List MV) : evT D (.tup ts) (.tup xs) fr h = if xs.length = tgsN ts then evTs D ts xs fr h else .no := by (conv => lhs; rw [evT]); try rfl
@[simp] theorem evt_sub (o i : E) (x : MV) : evT D (.sub o i) x fr h = (evE D o fr h).bind fun ov h => (evE D i fr h).bind fun iv h => (setIdx ov iv x h).bind fun _ h => .ok fr h := by (conv => lhs; rw [evT]); try rfl
@[simp] theorem evts_nil : evTs D .nil [] fr h = .ok fr h := by (conv => lhs; rw [evTs]); try rfl
@[simp] theorem evts_cons (t : Tg) (r : Tgs) (x : MV) (xs : List MV) : evTs D (.cons t r) (x :: xs) fr h = (evT D t x fr h).bind fun fr h => evTs D r xs fr h := by (conv => lhs; rw [evTs]); try rfl
@[simp] theorem test_eq (e : E) : evTest D e fr h = (evE D e fr h).bind fun x h => R.get (truM x h) h := rfl
@[simp] theorem ex_expr (e : E) : exS D (.expr e) fr h = (evE D e fr h).lift fr fun _ h => .ok (.nx fr) h := by (conv => lhs; rw [exS]); try rfl
@[simp] theorem ex_asg (t : Tg) (e : E) : exS D (.asg t e) fr h = (evE D e fr h).lift fr fun x h => (evT D t x fr h).calm fun fr h => .ok (.nx fr) h := by (conv => lhs; rw [exS]); try rfl
@[simp] theorem ex_aug (op : Bo) (i : Nat) (e : E) : exS D (.aug op i e) fr h = (match fr.at i with
    | some x => (evE D e fr h).lift fr fun y h => (binM true op x y h).calm fun z h => .ok (.nx (fr.set i (some z))) h
    | none => .no) := by (conv => lhs; rw [exS]); try rfl
@[simp] theorem ex_ite (c : E) (a b : Ss) : exS D (.ite c a b) fr h = (evTest D c fr h).lift fr fun t h => if t then exSs D a fr h else exSs D b fr h := by (conv => lhs; rw [exS]); try rfl
theorem ex_for (t : Tg) (it : It) (b : Ss) : exS D (.for_ t it b) fr h = (evI D it fr h).lift fr fun src h => forL src (fun x fr h => (evT D t x fr h).calm fun fr h => exSs D b fr h) (src.fuel h) 0 fr h := by (conv => lhs; rw [exS]); try rfl
@[simp] theorem ex_ret (e : E) : exS D (.ret (.some e)) fr h = (evE D e fr h).lift fr fun v h => .ok (.rt v) h := by (conv => lhs; rw [exS]); try rfl
@[simp] theorem ex_retN : exS D (.ret .none) fr h = .ok (.rt .non) h := by (conv => lhs; rw [exS]); try rfl
@[simp] theorem ex_pass : exS D .pass fr h = .ok (.nx fr) h := by (conv => lhs; rw [exS]); try rfl
@[simp] theorem ex_brk : exS D .brk fr h = .ok (.bk fr) h := by (conv => lhs; rw [exS]); try rfl
@[simp] theorem ex_cont : exS D .cont fr h = .ok (.ct fr) h := by (conv => lhs; rw [exS]); try rfl
@[simp] theorem exs_nil : exSs D .nil fr h = .ok (.nx fr) h := by (conv => lhs; rw [exSs]); try rfl
@[simp] theorem exs_cons (s : S) (r : Ss) : exSs D (.cons s r) fr h = (exS D s fr h).calm fun c h => match c with
    | .nx fr => exSs D r fr h
    | .rt v => .ok (.rt v) h
    | .bk fr => .ok (.bk fr) h
    | .ct fr => .ok (.ct fr) h
    | .xx e fr => .ok (.xx e fr) h := by (conv => lhs; rw [exSs]); try rfl
theorem seq_ok {s : S} {r : Ss} {fr' : Fr} {h' : MHp} (e : exS D s fr h = .ok (.nx fr') h') : exSs D (.cons s r) fr h = exSs D r fr' h' := by
  rw [exs_cons, e]; rfl
theorem seq_rt {s : S} {r : Ss} {v : MV} {h' : MHp} (e : exS D s fr h = .ok (.rt v) h') : exSs D (.cons s r) fr h = .ok (.rt v) h' := by
  rw [exs_cons, e]; rfl
theorem seq_xx {s : S} {r : Ss} {v : MV} {fr' : Fr} {h' : MHp} (e : exS D s fr h = .ok (.xx v fr') h') : exSs D (.cons s r) fr h = .ok (.xx v fr') h' := by
  rw [exs_cons, e]; rfl
@[simp] theorem end_rt (v : MV) : endM (.rt v) h = .ok v h := rfl
@[simp] theorem end_nx (f : Fr) : endM (.nx f) h = .ok .non h := rfl
@[simp] theorem end_xx (v : MV) (f : Fr) : endM (.xx v f) h = .ex v h := rfl
/-! stores -/
theorem setIdx_ref {a : Nat} {xs : List MV} {k : Int} {j : Nat} {v : MV} (e : h.get a = some (.lst xs)) (p : placeI k xs.length = some j) : setIdx (.ref a) (.int k) v h = .ok () (h.set a (.lst (xs.set j v))) := by
  unfold setIdx
  dsimp only
  rw [e]
  dsimp only
  rw [p]
/-! types -/
@[simp] theorem tyAny_nil (v : MV) : tyAny D v h [] = some false := rfl
@[simp] theorem tyAny_cons (v : MV) (t : Ty) (r : List Ty) : tyAny D v h (t :: r) = (match tyIs D v h t with
    | some true => some true
    | some false => tyAny D v h r
    | none => none) := rfl
@[simp] theorem ti_bl_int (b : Bool) : tyIs D (.bl b) h .int = some true := rfl
@[simp] theorem ti_bl_str (b : Bool) : tyIs D (.bl b) h .str = some false := rfl
@[simp] theorem ti_bl_bool (b : Bool) : tyIs D (.bl b) h .bool = some true := rfl
@[simp] theorem ti_bl_tup (b : Bool) : tyIs D (.bl b) h .tup = some false := rfl
@[simp] theorem ti_bl_lst (b : Bool) : tyIs D (.bl b) h .lst = some false := rfl
@[simp] theorem ti_bl_dic (b : Bool) : tyIs D (.bl b) h .dic = some false := rfl
@[simp] theorem ti_int_int (b : Int) : tyIs D (.int b) h .int = some true := rfl
@[simp] theorem ti_int_str (b : Int) : tyIs D (.int b) h .str = some false := rfl
@[simp] theorem ti_int_bool (b : Int) : tyIs D (.int b) h .bool = some false := rfl
@[simp] theorem ti_int_tup (b : Int) : tyIs D (.int b) h .tup = some false := rfl
@[simp] theorem ti_int_lst (b : Int) : tyIs D (.int b) h .lst = some false := rfl
@[simp] theorem ti_int_dic (b : Int) : tyIs D (.int b) h .dic = some false := rfl
@[simp] theorem ti_str_int (b : List Nat) : tyIs D (.str b) h .int = some false := rfl
@[simp] theorem ti_str_str (b : List Nat) : tyIs D (.str b) h .str = some true := rfl
@[simp] theorem ti_str_bool (b : List Nat) : tyIs D (.str b) h .bool = some false := rfl
@[simp] theorem ti_str_tup (b : List Nat) : tyIs D (.str b) h .tup = some false := rfl
@[simp] theorem ti_str_lst (b : List Nat) : tyIs D (.str b) h .lst = some false := rfl
@[simp] theorem ti_str_dic (b : List Nat) : tyIs D (.str b) h .dic = some false := rfl
@[simp] theorem ti_tup_int (b : List MV) : tyIs D (.tup b) h .int = some false := rfl
@[simp] theorem ti_tup_str (b : List MV) : tyIs D (.tup b) h .str = some false := rfl
@[simp] theorem ti_tup_bool (b : List MV) : tyIs D (.tup b) h .bool = some false := rfl
@[simp] theorem ti_tup_tup (b : List MV) : tyIs D (.tup b) h .tup = some true := rfl
@[simp] theorem ti_tup_lst (b : List MV) : tyIs D (.tup b) h .lst = some false := rfl
@[simp] theorem ti_tup_dic (b : List MV) : tyIs D (.tup b) h .dic = some false := rfl
@[simp] theorem ti_frl_int (b : List MV) : tyIs D (.frl b) h .int = some false := rfl
@[simp] theorem ti_frl_str (b : List MV) : tyIs D (.frl b) h .str = some false := rfl
@[simp] theorem ti_frl_bool (b : List MV) : tyIs D (.frl b) h .bool = some false := rfl
@[simp] theorem ti_frl_tup (b : List MV) : tyIs D (.frl b) h .tup = some false := rfl
@[simp] theorem ti_frl_lst (b : List MV) : tyIs D (.frl b) h .lst = some true := rfl
@[simp] theorem ti_frl_dic (b : List MV) : tyIs D (.frl b) h .dic = some false := rfl
@[simp] theorem ti_non_int  : tyIs D .non h .int = some false := rfl
@[simp] theorem ti_non_str  : tyIs D .non h .str = some false := rfl
@[simp] theorem ti_non_bool  : tyIs D .non h .bool = some false := rfl
@[simp] theorem ti_non_tup  : tyIs D .non h .tup = some false := rfl
@[simp] theorem ti_non_lst  : tyIs D .non h .lst = some false := rfl
@[simp] theorem ti_non_dic  : tyIs D .non h .dic = some false := rfl
theorem ti_ref {a : Nat} {xs : List MV} {t : Ty} (e : h.get a = some (.lst xs)) (ht : t.flat = true) : tyIs D (.ref a) h t = some (t == .lst) := by
  unfold tyIs
  dsimp only
  rw [e]
  exact if_pos ht
theorem ti_cls (c j : Nat) (fs : List (Nat × MV)) : tyIs D (.exc c fs) h (.cls j) = if c < D.nx ∧ j < D.nx then some (D.sub c j) else none := rfl
theorem ti_bt (c j : Nat) (fs : List (Nat × MV)) : tyIs D (.exc c fs) h (.bt j) = if c < D.nx ∧ j < 3 then some (D.subB c j) else none := rfl
theorem tyAny1 {v : MV} {t : Ty} {b : Bool} (e : tyIs D v h t = some b) : tyAny D v h [t] = some b := by
  simp only [tyAny, e]
  cases b <;> rfl
end
end G
set_option linter.all false
set_option maxRecDepth 100000
set_option maxHeartbeats 4000000
/-! Drawing: bag, take, of. -/
namespace G
def takeB : Ss := (.cons (.ite (.and (.cmp .eq (.idx (.var 0) (.lit (.int 2))) (.lit (.int 0))) (.cmp .lt (.idx (.var 0) (.lit (.int 1))) (.bi true .len (.cons (.idx (.var 0) (.lit (.int 0))) .nil)))) (.cons (.asg (.v 2) (.idx (.idx (.var 0) (.lit (.int 0))) (.idx (.var 0) (.lit (.int 1))))) (.cons (.asg (.sub (.var 0) (.lit (.int 1))) (.bin true .add (.idx (.var 0) (.lit (.int 1))) (.lit (.int 1)))) (.cons (.ite (.cmp .ge (.var 2) (.bin true .pow (.lit (.int 10)) (.lit (.int 18)))) (.cons (.asg (.sub (.var 0) (.lit (.int 2))) (.var 2)) .nil) (.cons (.asg (.v 4) (.bin true .add (.bin true .mul (.idx (.var 0) (.lit (.int 3))) (.lit (.int 40087))) (.bin true .mod (.bi true .int (.cons (.var 2) .nil)) (.lit (.int 1999999913))))) (.cons (.asg (.sub (.var 0) (.lit (.int 3))) (.bin true .mod (.bi true .int (.cons (.bin true .add (.var 4) (.idx (.var 0) (.lit (.int 1)))) .nil)) (.lit (.int 2147483629)))) .nil))) .nil))) .nil) (.cons (.ite (.cmp .gt (.idx (.var 0) (.lit (.int 2))) (.lit (.int 0))) (.cons (.asg (.v 3) (.bin true .mod (.bi true .int (.cons (.idx (.var 0) (.lit (.int 2))) .nil)) (.var 1))) (.cons (.asg (.sub (.var 0) (.lit (.int 2))) (.bin true .fdiv (.idx (.var 0) (.lit (.int 2))) (.var 1))) (.cons (.ret (.some (.var 3))) .nil))) .nil) (.cons (.asg (.sub (.var 0) (.lit (.int 3))) (.bin true .mod (.bi true .int (.cons (.bin true .add (.bin true .mul (.idx (.var 0) (.lit (.int 3))) (.lit (.int 48271033))) (.lit (.int 37))) .nil)) (.lit (.int 2147483629)))) (.cons (.ret (.some (.bin true .mod (.bi true .int (.cons (.bin true .fdiv (.bin true .mod (.bi true .int (.cons (.bin true .mul (.idx (.var 0) (.lit (.int 3))) (.idx (.var 0) (.lit (.int 3)))) .nil)) (.lit (.int 1000000021))) (.lit (.int 31))) .nil)) (.var 1)))) .nil))))
def bagB : Ss := (.cons (.asg (.v 1) (.bi true .list (.cons (.slice true (.var 0) .none (.some (.lit (.int 63)))) .nil))) (.cons (.asg (.v 2) (.bin true .add (.lit (.int 3847)) (.bin true .mul (.lit (.int 29)) (.bi true .len (.cons (.var 1) .nil))))) (.cons (.for_ (.v 3) (.val (.var 1)) (.cons (.asg (.v 2) (.bin true .mod (.bi true .int (.cons (.bin true .add (.bin true .add (.bin true .mul (.var 2) (.lit (.int 45161))) (.bin true .mod (.bi true .int (.cons (.var 3) .nil)) (.lit (.int 2147483423)))) (.lit (.int 11))) .nil)) (.lit (.int 2147483549)))) .nil)) (.cons (.ret (.some (.lst false (.cons (.var 1) (.cons (.lit (.int 0)) (.cons (.lit (.int 0)) (.cons (.var 2) .nil))))))) .nil))))
def bagL : Ss := (.cons (.asg (.v 2) (.bin true .mod (.bi true .int (.cons (.bin true .add (.bin true .add (.bin true .mul (.var 2) (.lit (.int 45161))) (.bin true .mod (.bi true .int (.cons (.var 3) .nil)) (.lit (.int 2147483423)))) (.lit (.int 11))) .nil)) (.lit (.int 2147483549)))) .nil)
structure BagAt (h : MHp) (b : Nat) (row : List Int) (i c m : Int) : Prop where
  hb : h.get b = some (.lst [.frl (row.map .int), .int i, .int c, .int m])
  hr : row.length ≤ 63
  i0 : 0 ≤ i
  il : i ≤ row.length
  c0 : 0 ≤ c
  m0 : 0 ≤ m
  ml : m < 2147483648
/-- a bag to draw from -/
def Bag (h : MHp) (b : Nat) : Prop := ∃ row i c m, BagAt h b row i c m
/-- but for the object at b all is as it was -/
structure But (b : Nat) (h h' : MHp) : Prop where
  n : h'.n = h.n
  g : ∀ a, a ≠ b → h'.get a = h.get a
theorem But.refl {b : Nat} {h : MHp} : But b h h := ⟨rfl, fun _ _ => rfl⟩
theorem But.trans {b : Nat} {h h1 h2 : MHp} (x : But b h h1) (y : But b h1 h2) : But b h h2 := ⟨y.n.trans x.n, fun a ha => (y.g a ha).trans (x.g a ha)⟩
theorem BagAt.set {h : MHp} {b : Nat} {row : List Int} {i c m i' c' m' : Int} (B : BagAt h b row i c m) (hi : 0 ≤ i') (hl : i' ≤ row.length) (hc : 0 ≤ c') (hm : 0 ≤ m') (hM : m' < 2147483648) :
    BagAt (h.set b (.lst [.frl (row.map .int), .int i', .int c', .int m'])) b row i' c' m' := by
  have hbn := MHp.get_lt B.hb
  exact ⟨by rw [MHp.get_set _ _ hbn, if_pos rfl], B.hr, hi, hl, hc, hm, hM⟩
theorem BagAt.but {h : MHp} {b : Nat} {row : List Int} {i c m : Int} (B : BagAt h b row i c m) (o : MO) : But b h (h.set b o) := ⟨rfl, fun a ha => by rw [MHp.get_set _ _ (MHp.get_lt B.hb), if_neg ha]⟩
theorem BagAt.i0' {h : MHp} {b : Nat} {row : List Int} {i c m : Int} (B : BagAt h b row i c m) : idxM (.ref b) (.int 0) h = some (.frl (row.map .int)) ∧ idxM (.ref b) (.int 1) h = some (.int i) ∧ idxM (.ref b) (.int 2) h = some (.int c) ∧ idxM (.ref b) (.int 3) h = some (.int m) := by
  refine ⟨?_, ?_, ?_, ?_⟩ <;> (rw [idx_ref _ B.hb]; rfl)
theorem BagAt.s1 {h : MHp} {b : Nat} {row : List Int} {i c m : Int} (B : BagAt h b row i c m) (v : MV) : setIdx (.ref b) (.int 1) v h = .ok () (h.set b (.lst [.frl (row.map .int), v, .int c, .int m])) := setIdx_ref (j := 1) B.hb rfl
theorem BagAt.s2 {h : MHp} {b : Nat} {row : List Int} {i c m : Int} (B : BagAt h b row i c m) (v : MV) : setIdx (.ref b) (.int 2) v h = .ok () (h.set b (.lst [.frl (row.map .int), .int i, v, .int m])) := setIdx_ref (j := 2) B.hb rfl
theorem BagAt.s3 {h : MHp} {b : Nat} {row : List Int} {i c m : Int} (B : BagAt h b row i c m) (v : MV) : setIdx (.ref b) (.int 3) v h = .ok () (h.set b (.lst [.frl (row.map .int), .int i, .int c, v])) := setIdx_ref (j := 3) B.hb rfl
theorem take_ok (D : Ds) {h : MHp} {b : Nat} {row : List Int} {i c m : Int} (many : Int) (B : BagAt h b row i c m) (hm : 0 < many) (hl : many < 1073741824) :
    ∃ v h', exSs D takeB [some (.ref b), some (.int many), none, none, none] h = .ok (.rt (.int v)) h' ∧ 0 ≤ v ∧ v < many ∧ Bag h' b ∧ But b h h' := by
  obtain ⟨g0, g1, g2, g3⟩ := B.i0'
  have hi0 := B.i0
  have hil := B.il
  have hr := B.hr
  have hm0 := B.m0
  have hml := B.ml
  have sc1 := B.s1
  have sc2 := B.s2
  have sc3 := B.s3
  have e1 : ∀ z : Int, 0 ≤ z % 2147483629 ∧ z % 2147483629 < 2147483648 := fun z => ⟨Int.emod_nonneg _ (by decide), by have := Int.emod_lt_of_pos z (show (0 : Int) < 2147483629 by decide); omega⟩
  by_cases h0 : c = 0 ∧ i < row.length
  · obtain ⟨hc, hi⟩ := h0
    subst hc
    obtain ⟨k, rfl⟩ := Int.eq_ofNat_of_zero_le hi0
    have hk : k < row.length := by omega
    obtain ⟨cell, hcell⟩ : ∃ z, row[k] = z := ⟨_, rfl⟩
    have B1 := B.set (i' := k + 1) (c' := 0) (m' := m) (by omega) (by omega) (by decide) hm0 hml
    have pk : placeI (k : Int) row.length = some k := place_nat hk
    obtain ⟨a0, a1, a2, a3⟩ := B1.i0'
    have sa2 := B1.s2
    have sa3 := B1.s3
    by_cases hbig : 1000000000000000000 ≤ cell
    · have hpos : 0 < cell := by omega
      have B2 := B1.set (i' := k + 1) (c' := cell) (m' := m) (by omega) (by omega) (by omega) hm0 hml
      obtain ⟨d0, d1, d2, d3⟩ := B2.i0'
      have sd2 := B2.s2
      refine ⟨cell % many, _, ?_, Int.emod_nonneg _ (by omega), Int.emod_lt_of_pos _ hm, ⟨_, _, _, _, B2.set (i' := k + 1) (c' := cell / many) (m' := m) (by omega) (by omega) (Int.ediv_nonneg (by omega) (Int.le_of_lt hm)) hm0 hml⟩, ((B.but _).trans (B1.but _)).trans (B2.but _)⟩
      simp [takeB, g0, g1, g2, g3, sc1, sc2, sc3, a0, a1, a2, a3, sa2, sa3, d0, d1, d2, d3, sd2, hi, hk, pk, hcell, hbig, hpos, hm, hl, place_nat]
    · have r1 := e1 (m * 40087 + cell % 1999999913 + (k + 1))
      generalize hM1 : (m * 40087 + cell % 1999999913 + (k + 1)) % 2147483629 = M1 at r1
      have r2 := e1 (M1 * 48271033 + 37)
      generalize hM2 : (M1 * 48271033 + 37) % 2147483629 = M2 at r2
      have B2 := B1.set (i' := k + 1) (c' := 0) (m' := M1) (by omega) (by omega) (by omega) r1.1 r1.2
      have B3 := B2.set (i' := k + 1) (c' := 0) (m' := M2) (by omega) (by omega) (by decide) r2.1 r2.2
      obtain ⟨d0, d1, d2, d3⟩ := B2.i0'
      have sd3 := B2.s3
      obtain ⟨k0, k1, k2, k3⟩ := B3.i0'
      refine ⟨((M2 * M2) % 1000000021 / 31) % many, _, ?_, Int.emod_nonneg _ (by omega), Int.emod_lt_of_pos _ hm, ⟨_, _, _, _, B3⟩, ((B.but _).trans (B1.but _)).trans (B2.but _)⟩
      have f0 : -18446744073709551616 < m ∧ m < 18446744073709551616 := by omega
      have f1 : -18446744073709551616 < M1 ∧ M1 < 18446744073709551616 := by omega
      have f2 : -18446744073709551616 < M2 ∧ M2 < 18446744073709551616 := by omega
      simp [takeB, g0, g1, g2, g3, sc1, sc2, sc3, a0, a1, a2, a3, sa2, sa3, d0, d1, d2, d3, sd3, k0, k1, k2, k3, hi, hk, pk, hcell, hbig, hm, hl, place_nat, f0, f1, f2, hM1, hM2]
  · by_cases h1 : 0 < c
    · refine ⟨c % many, _, ?_, Int.emod_nonneg _ (by omega), Int.emod_lt_of_pos _ hm, ⟨_, _, _, _, B.set (i' := i) (c' := c / many) (m' := m) hi0 hil (Int.ediv_nonneg B.c0 (Int.le_of_lt hm)) hm0 hml⟩, B.but _⟩
      have hc : ¬ c = 0 := by omega
      simp [takeB, g0, g1, g2, g3, sc1, sc2, sc3, h1, hm, hl, hc]
    · have hc : c = 0 := by have := B.c0; omega
      have hi : ¬ i < row.length := fun z => h0 ⟨hc, z⟩
      subst hc
      have r2 := e1 (m * 48271033 + 37)
      generalize hM : (m * 48271033 + 37) % 2147483629 = M at r2
      have B3 := B.set (i' := i) (c' := 0) (m' := M) hi0 hil (by decide) r2.1 r2.2
      obtain ⟨k0, k1, k2, k3⟩ := B3.i0'
      refine ⟨((M * M) % 1000000021 / 31) % many, _, ?_, Int.emod_nonneg _ (by omega), Int.emod_lt_of_pos _ hm, ⟨_, _, _, _, B3⟩, B.but _⟩
      have f1 : -18446744073709551616 < m ∧ m < 18446744073709551616 := by omega
      have f2 : -18446744073709551616 < M ∧ M < 18446744073709551616 := by omega
      simp [takeB, g0, g1, g2, g3, sc1, sc2, sc3, k0, k1, k2, k3, hm, hl, hi, hM, f1, f2]

/-! ### bag -/
theorem bag_loop (D : Ds) {h : MHp} {row : List Int} {s : MV} : ∀ (n i : Nat) (M : Int) (c : Option MV), n + i = row.length → 0 ≤ M → M < 2147483648 →
    ∃ M' c', forL (.items (row.map .int)) (fun x fr h => (evT D (.v 3) x fr h).calm fun fr h => exSs D bagL fr h) (n + 1) i [some s, some (.frl (row.map .int)), some (.int M), c] h = .ok (.nx [some s, some (.frl (row.map .int)), some (.int M'), c']) h ∧ 0 ≤ M' ∧ M' < 2147483648
  | 0, i, M, c, hn, h0, h1 => by
    have hi : i = row.length := by omega
    refine ⟨M, c, ?_, h0, h1⟩
    simp [forL, Src.item, hi]
  | n + 1, i, M, c, hn, h0, h1 => by
    have hil : i < row.length := by omega
    obtain ⟨cell, hcell⟩ : ∃ z, row[i] = z := ⟨_, rfl⟩
    have f0 : -18446744073709551616 < M ∧ M < 18446744073709551616 := by omega
    generalize hM : (M * 45161 + cell % 2147483423 + 11) % 2147483549 = M1
    have g1 : 0 ≤ M1 := by rw [← hM]; exact Int.emod_nonneg _ (by decide)
    have g2 : M1 < 2147483648 := by
      have := Int.emod_lt_of_pos (M * 45161 + cell % 2147483423 + 11) (show (0 : Int) < 2147483549 by decide)
      omega
    obtain ⟨M', c', ih, j0, j1⟩ := bag_loop D (h := h) (row := row) (s := s) n (i + 1) M1 (some (.int cell)) (by omega) g1 g2
    refine ⟨M', c', ?_, j0, j1⟩
    rw [← ih]
    conv => lhs; unfold forL
    simp [Src.item, hil, hcell, bagL, f0, hM]
theorem bag_ok (D : Ds) (ns : List Int) (hl : ns.length ≤ 63) (h : MHp) : ∃ m, exSs D bagB [some (.wrl (ns.map .int)), none, none, none] h = .ok (.rt (.ref h.n)) (h.push (.lst [.frl (ns.map .int), .int 0, .int 0, .int m])) ∧ 0 ≤ m ∧ m < 2147483648 := by
  have hsub : subL (ns.map MV.int) (cutL 0 ns.length) (hiCut (some 63) ns.length) = ns.map MV.int := by
    have : min 63 ns.length = ns.length := by omega
    simp [subL, cutL, hiCut, this]
    rw [List.take_of_length_le (by simp)]
  have hline : ns.length ≤ lineN := by unfold lineN; omega
  have hl' : (ns.length : Int) ≤ 63 := by omega
  obtain ⟨M, c, l1, l2, l3⟩ := bag_loop D (row := ns) (h := h) (s := .wrl (ns.map .int)) ns.length 0 (3847 + 29 * ns.length) none (by omega) (by omega) (by omega)
  refine ⟨M, ?_, l2, l3⟩
  have s3 : exS D (.for_ (.v 3) (.val (.var 1)) bagL) [some (.wrl (ns.map .int)), some (.frl (ns.map .int)), some (.int (3847 + 29 * ns.length)), none] h = .ok (.nx [some (.wrl (ns.map .int)), some (.frl (ns.map .int)), some (.int M), c]) h := by
    rw [ex_for]
    simp only [evi_val, ev_var, at_succ, at_zero, get_some, bind_ok, srcOf, lift_ok, Src.fuel]
    rw [List.length_map]
    exact l1
  unfold bagB
  rw [seq_ok (fr' := [some (.wrl (ns.map .int)), some (.frl (ns.map .int)), none, none]) (h' := h) (by simp [sliceM, hsub, hline])]
  rw [seq_ok (fr' := [some (.wrl (ns.map .int)), some (.frl (ns.map .int)), some (.int (3847 + 29 * ns.length)), none]) (h' := h) (by simp)]
  have s3' := s3
  unfold bagL at s3'
  rw [seq_ok s3']
  simp [newL, lineN]
/-! ### the calls -/
section
variable {defs : List Df} {T : Tab} {d : Nat} {h : MHp} {b : Nat}
theorem Bag.but {h' : MHp} {c : Nat} (B : Bag h b) (u : But c h h') (ne : b ≠ c) : Bag h' b := let ⟨row, i, k, m, q⟩ := B; ⟨row, i, k, m, (u.g b ne).trans q.hb, q.hr, q.i0, q.il, q.c0, q.m0, q.ml⟩
theorem Bag.same {h' : MHp} (B : Bag h b) (e : h'.get b = h.get b) : Bag h' b := let ⟨row, i, k, m, q⟩ := B; ⟨row, i, k, m, e.trans q.hb, q.hr, q.i0, q.il, q.c0, q.m0, q.ml⟩
theorem rest_but {h' : MHp} {v : MV} (B : Bag h b) (B' : Bag h' b) (u : But b h.mark h') : ∃ h2, (R.ok v h').rest h = .ok v h2 ∧ Bag h2 b ∧ But b h h2 := by
  unfold R.rest
  dsimp only
  split
  · exact ⟨h, rfl, B, But.refl⟩
  · exact ⟨h'.unmark h.m, rfl, B'.same rfl, ⟨u.n, u.g⟩⟩
theorem take_call {f : Nat} (hd : defs[f]? = some ⟨2, 5, takeB⟩) (many : Int) (B : Bag h b) (hm : 0 < many) (hl : many < 1073741824) :
    ∃ v h', callN defs T (d + 1) f [.ref b, .int many] h = .ok (.int v) h' ∧ 0 ≤ v ∧ v < many ∧ Bag h' b ∧ But b h h' := by
  obtain ⟨row, i, c, m, q⟩ := B
  have q' : BagAt h.mark b row i c m := ⟨q.hb, q.hr, q.i0, q.il, q.c0, q.m0, q.ml⟩
  obtain ⟨v, h', e, h1, h2, h3, h4⟩ := take_ok (dsOf defs T d) many q' hm hl
  obtain ⟨h5, e5, b5, u5⟩ := rest_but (v := .int v) ⟨row, i, c, m, q⟩ h3 h4
  refine ⟨v, h5, ?_, h1, h2, b5, u5⟩
  rw [callN_def hd rfl]
  show ((exSs (dsOf defs T d) takeB [some (.ref b), some (.int many), none, none, none] h.mark).calm endM).rest h = _
  rw [e]
  exact e5
theorem bag_call {f : Nat} (hd : defs[f]? = some ⟨1, 4, bagB⟩) (ns : List Int) (hl : ns.length ≤ 63) : ∃ h', callN defs T (d + 1) f [.wrl (ns.map .int)] h = .ok (.ref h.n) h' ∧ Bag h' h.n ∧ h'.n = h.n + 1 ∧ ∀ a, a < h.n → h'.get a = h.get a := by
  obtain ⟨m, e, m0, m1⟩ := bag_ok (dsOf defs T d) ns hl h.mark
  have hu : (MV.ref h.n).under h.n = false := by
    simp only [MV.under]
    exact Bool.eq_false_iff.mpr fun z => Nat.lt_irrefl _ (Nat.blt_eq.mp z)
  refine ⟨((h.mark.push (.lst [.frl (ns.map .int), .int 0, .int 0, .int m])).unmark h.m), ?_, ⟨ns, 0, 0, m, ?_, hl, by decide, by omega, by decide, m0, m1⟩, rfl, fun a ha => ?_⟩
  · rw [callN_def hd rfl]
    show ((exSs (dsOf defs T d) bagB [some (.wrl (ns.map .int)), none, none, none] h.mark).calm endM).rest h = _
    rw [e]
    show (R.ok (MV.ref h.n) _).rest h = _
    unfold R.rest
    dsimp only
    rw [if_neg (by rw [hu]; simp)]
  · rw [MHp.unmark_get, MHp.get_push]
    exact if_pos rfl
  · rw [MHp.unmark_get, MHp.get_push, if_neg (by show a ≠ h.n; omega)]
    rfl
def ofB (take : Nat) : Ss := .cons (.ret (.some (.idx (.var 1) (.call take (.cons (.var 0) (.cons (.bi true .len (.cons (.var 1) .nil)) .nil)))))) .nil
theorem under_mono {n m : Nat} (hnm : n ≤ m) : True := trivial
/-- of: one of the things -/
theorem of_call {f g : Nat} (hd : defs[f]? = some ⟨2, 5, takeB⟩) (hg : defs[g]? = some ⟨2, 2, ofB f⟩) (xs : List MV) (B : Bag h b) (h0 : 0 < xs.length) (h1 : xs.length < 1000000) :
    ∃ (j : Nat) (x : MV) (h' : MHp), callN defs T (d + 2) g [.ref b, .frl xs] h = .ok x h' ∧ xs[j]? = some x ∧ Bag h' b ∧ But b h h' := by
  have B' : Bag h.mark b := B.same rfl
  obtain ⟨v, h', e, v0, v1, b1, u1⟩ := take_call (T := T) (d := d) hd (xs.length : Int) B' (by omega) (by omega)
  obtain ⟨k, rfl⟩ := Int.eq_ofNat_of_zero_le v0
  have hk : k < xs.length := by omega
  obtain ⟨h5, e5, b5, u5⟩ := rest_but (v := xs[k]) B b1 u1
  refine ⟨k, xs[k], h5, ?_, List.getElem?_eq_getElem hk, b5, u5⟩
  rw [callN_def hg rfl]
  show ((exSs (dsOf defs T (d + 1)) (ofB f) [some (.ref b), some (.frl xs)] h.mark).calm endM).rest h = _
  have e' : (dsOf defs T (d + 1)).call f [.ref b, .int xs.length] h.mark = .ok (.int k) h' := e
  simp [ofB, e', place_nat hk, hk]
  exact e5
end
end G
set_option linter.all false
set_option maxRecDepth 100000
set_option maxHeartbeats 1000000
/-! Loops and comprehensions, by their turns. -/
namespace G
theorem lcL_pure {turn : MV → MHp → R (Option MV)} {f : MV → Option MV} {h : MHp} {xs : List MV} (ht : ∀ x ∈ xs, turn x h = .ok (f x) h) (hl : xs.length ≤ lineN) :
    ∀ (n i : Nat) (acc : List MV), n + i = xs.length → acc.length ≤ i → lcL (.items xs) turn (n + 1) i acc h = .ok (acc ++ (xs.drop i).filterMap f) h
  | 0, i, acc, hn, ha => by
    have hi : i = xs.length := by omega
    subst hi
    simp [lcL, Src.item]
  | n + 1, i, acc, hn, ha => by
    have hil : i < xs.length := by omega
    unfold lcL
    simp only [Src.item, List.getElem?_eq_getElem hil]
    rw [ht _ (List.getElem_mem hil), calm_ok]
    rw [List.drop_eq_getElem_cons hil]
    cases q : f xs[i] with
    | none =>
      dsimp only
      rw [lcL_pure ht hl n (i + 1) acc (by omega) (by omega), List.filterMap_cons, q]
    | some y =>
      dsimp only
      rw [if_pos (by omega), lcL_pure ht hl n (i + 1) (acc ++ [y]) (by omega) (by simp; omega), List.filterMap_cons, q, List.append_assoc]
      rfl
variable {D : Ds} {fr : Fr} {h : MHp}
/-- [e for x in items if c], where nothing is changed -/
theorem ev_lc {z : Bool} {e : E} {tg : Tg} {it : It} {c : Eo} {own : List Nat} {xs : List MV} {f : MV → Option MV} (hi : evI D it fr h = .ok (.items xs) h) (hl : xs.length ≤ lineN)
    (ht : ∀ x ∈ xs, ((evT D tg x (wipeF fr own) h).bind fun fr h => (evC D c fr h).bind fun b h => if b then (evE D e fr h).bind fun y h => .ok (some y) h else .ok none h) = .ok (f x) h) :
    evE D (.lc z e tg it c own) fr h = newL z (xs.filterMap f) h := by
  have key := lcL_pure (turn := fun x h => (evT D tg x (wipeF fr own) h).bind fun fr h => (evC D c fr h).bind fun b h => if b then (evE D e fr h).bind fun y h => .ok (some y) h else .ok none h) (h := h) ht hl xs.length 0 [] (by omega) (by simp)
  rw [evE, hi, bind_ok]
  show (lcL _ _ (xs.length + 1) 0 [] h).bind _ = _
  rw [key]
  rfl
theorem rangeL_mem {lo : Int} {n : Nat} {x : MV} (hx : x ∈ rangeL lo n) : ∃ k : Nat, k < n ∧ x = .int (lo + k) := by
  unfold rangeL at hx
  obtain ⟨k, hk, rfl⟩ := List.mem_map.mp hx
  exact ⟨k, List.mem_range.mp hk, rfl⟩
@[simp] theorem rangeL_len (lo : Int) (n : Nat) : (rangeL lo n).length = n := by simp [rangeL]
theorem rangeL_get {lo : Int} {n i : Nat} (hi : i < n) : (rangeL lo n)[i]? = some (.int (lo + i)) := by
  unfold rangeL
  rw [List.getElem?_map, List.getElem?_range hi]
  rfl
/-- a for over items, by an invariant -/
theorem forL_inv {body : MV → Fr → MHp → R Ctl} {xs : List MV} {P : Nat → Fr → MHp → Prop}
    (turn : ∀ i x fr h, xs[i]? = some x → P i fr h → ∃ fr' h', (body x fr h = .ok (.nx fr') h' ∨ body x fr h = .ok (.ct fr') h') ∧ P (i + 1) fr' h') :
    ∀ (n i : Nat) (fr : Fr) (h : MHp), n + i = xs.length → P i fr h → ∃ fr' h', forL (.items xs) body (n + 1) i fr h = .ok (.nx fr') h' ∧ P xs.length fr' h'
  | 0, i, fr, h, hn, hP => by
    have hi : i = xs.length := by omega
    subst hi
    refine ⟨fr, h, ?_, hP⟩
    simp [forL, Src.item]
  | n + 1, i, fr, h, hn, hP => by
    have hil : i < xs.length := by omega
    obtain ⟨fr1, h1, e1, p1⟩ := turn i xs[i] fr h (List.getElem?_eq_getElem hil) hP
    obtain ⟨fr2, h2, e2, p2⟩ := forL_inv turn n (i + 1) fr1 h1 (by omega) p1
    refine ⟨fr2, h2, ?_, p2⟩
    unfold forL
    simp only [Src.item, List.getElem?_eq_getElem hil]
    rcases e1 with e1 | e1 <;> (rw [e1]; exact e2)
theorem for_inv {t : Tg} {it : It} {b : Ss} {xs : List MV} {P : Nat → Fr → MHp → Prop} {h1 : MHp} (hi : evI D it fr h = .ok (.items xs) h1) (start : P 0 fr h1)
    (turn : ∀ i x fr h, xs[i]? = some x → P i fr h → ∃ fr' h', (((evT D t x fr h).calm fun fr h => exSs D b fr h) = .ok (.nx fr') h' ∨ ((evT D t x fr h).calm fun fr h => exSs D b fr h) = .ok (.ct fr') h') ∧ P (i + 1) fr' h') :
    ∃ fr' h', exS D (.for_ t it b) fr h = .ok (.nx fr') h' ∧ P xs.length fr' h' := by
  obtain ⟨fr2, h2, e, p⟩ := forL_inv turn xs.length 0 fr h1 (by omega) start
  refine ⟨fr2, h2, ?_, p⟩
  rw [ex_for, hi, lift_ok]
  exact e
end G
set_option Elab.async false
set_option linter.all false
set_option maxRecDepth 100000
set_option maxHeartbeats 4000000
namespace K61
open G
def eA (n m : MV) : List MV := [.exc 1 [(1, n), (0, .str [66, 97, 100, 68, 111, 99, 117, 109, 101, 110, 116])], .exc 2 [(2, m), (0, .str [66, 97, 100, 83, 104, 97, 112, 101])], .exc 3 [(3, n), (0, .str [66, 97, 100, 83, 99, 114, 105, 112, 116])], .exc 4 [(2, n), (0, .str [80, 97, 114, 115, 101, 69, 114, 114, 111, 114])], .exc 5 [(4, m), (0, .str [84, 111, 111, 77, 97, 110, 121])], .exc 6 [(5, n), (0, .str [66, 97, 100, 78, 97, 109, 101])], .exc 7 [(5, m), (0, .str [68, 117, 112, 108, 105, 99, 97, 116, 101, 78, 97, 109, 101])], .exc 8 [(5, n), (0, .str [87, 114, 111, 110, 103, 75, 105, 110, 100])], .exc 9 [(4, n), (0, .str [70, 117, 108, 108])]]
def eB (n m : MV) : List MV := [.exc 10 [(6, m), (0, .str [66, 97, 100, 76, 105, 109, 105, 116])], .exc 11 [(7, n), (0, .str [66, 97, 100, 67, 111, 109, 109, 97, 110, 100])], .exc 12 [(8, n), (0, .str [81, 117, 97, 114, 114, 101, 108])], .exc 14 [(5, m), (0, .str [85, 110, 107, 110, 111, 119, 110, 78, 97, 109, 101])], .exc 15 [(9, n), (0, .str [85, 110, 107, 110, 111, 119, 110, 72, 97, 110, 100])], .exc 16 [(0, .str [78, 111, 116, 104, 105, 110, 103, 76, 101, 102, 116])]]
def errs (n m : MV) : List MV := eA n m ++ eB n m
def five : List MV := [.str [], .str [97], .non, .int 7, .tup [.int 0, .int 1]]
def wordsL : List MV := [.str [66, 97, 100, 68, 111, 99, 117, 109, 101, 110, 116], .str [66, 97, 100, 83, 104, 97, 112, 101], .str [66, 97, 100, 83, 99, 114, 105, 112, 116], .str [80, 97, 114, 115, 101, 69, 114, 114, 111, 114], .str [84, 111, 111, 77, 97, 110, 121], .str [66, 97, 100, 78, 97, 109, 101], .str [68, 117, 112, 108, 105, 99, 97, 116, 101, 78, 97, 109, 101], .str [87, 114, 111, 110, 103, 75, 105, 110, 100], .str [70, 117, 108, 108], .str [66, 97, 100, 76, 105, 109, 105, 116], .str [66, 97, 100, 67, 111, 109, 109, 97, 110, 100], .str [81, 117, 97, 114, 114, 101, 108], .str [85, 110, 107, 110, 111, 119, 110, 78, 97, 109, 101], .str [85, 110, 107, 110, 111, 119, 110, 72, 97, 110, 100], .str [78, 111, 116, 104, 105, 110, 103, 76, 101, 102, 116]]
def dueL (n m : MV) : List MV := [n, m, n, n, m, n, m, n, n, m, n, n, m, n, .non]
def inB : Ss := (.cons (.ite (.or (.cmp .ne (.call 7 (.cons (.var 11) .nil)) (.lc true (.cmp .eq (.var 13) (.var 10)) (.v 13) (.range1 (.lit (.int 15))) .none [13])) (.or (.cmp .ne (.fld (.var 11) 0) (.idx (.var 2) (.var 10))) (.not (.call 3 (.cons (.call 4 (.cons (.var 11) .nil)) (.cons (.idx (.var 9) (.var 10)) .nil)))))) (.cons (.ret (.some (.lit (.bl false)))) .nil) .nil) (.cons (.asg (.v 12) (.lst true (.cons (.isin (.var 11) [(.cls 0)]) (.cons (.isin (.var 11) [(.bt 0)]) (.cons (.isin (.var 11) [(.cls 13)]) (.cons (.isin (.var 11) [(.bt 1)]) (.cons (.isin (.var 11) [(.bt 2)]) .nil))))))) (.cons (.ite (.cmp .ne (.var 12) (.lst true (.cons (.cmp .lt (.var 10) (.lit (.int 12))) (.cons (.cmp .lt (.var 10) (.lit (.int 12))) (.cons (.chain .le .lt (.lit (.int 12)) (.var 10) (.lit (.int 14))) (.cons (.cmp .ge (.var 10) (.lit (.int 12))) (.cons (.cmp .eq (.var 10) (.lit (.int 14))) .nil))))))) (.cons (.ret (.some (.lit (.bl false)))) .nil) .nil) .nil)))
def inF : S := (.for_ (.v 11) (.val (.lst true (.cons (.idx (.var 7) (.var 10)) (.cons (.idx (.var 8) (.var 10)) .nil)))) (.cons (.ite (.or (.cmp .ne (.call 7 (.cons (.var 11) .nil)) (.lc true (.cmp .eq (.var 13) (.var 10)) (.v 13) (.range1 (.lit (.int 15))) .none [13])) (.or (.cmp .ne (.fld (.var 11) 0) (.idx (.var 2) (.var 10))) (.not (.call 3 (.cons (.call 4 (.cons (.var 11) .nil)) (.cons (.idx (.var 9) (.var 10)) .nil)))))) (.cons (.ret (.some (.lit (.bl false)))) .nil) .nil) (.cons (.asg (.v 12) (.lst true (.cons (.isin (.var 11) [(.cls 0)]) (.cons (.isin (.var 11) [(.bt 0)]) (.cons (.isin (.var 11) [(.cls 13)]) (.cons (.isin (.var 11) [(.bt 1)]) (.cons (.isin (.var 11) [(.bt 2)]) .nil))))))) (.cons (.ite (.cmp .ne (.var 12) (.lst true (.cons (.cmp .lt (.var 10) (.lit (.int 12))) (.cons (.cmp .lt (.var 10) (.lit (.int 12))) (.cons (.chain .le .lt (.lit (.int 12)) (.var 10) (.lit (.int 14))) (.cons (.cmp .ge (.var 10) (.lit (.int 12))) (.cons (.cmp .eq (.var 10) (.lit (.int 14))) .nil))))))) (.cons (.ret (.some (.lit (.bl false)))) .nil) .nil) .nil))))
def outB : Ss := (.cons (.asg (.v 10) (.bin true .mod (.bi true .int (.cons (.bin true .add (.var 3) (.bin true .mul (.lit (.int 4)) (.var 4))) .nil)) (.lit (.int 15)))) (.cons (.for_ (.v 11) (.val (.lst true (.cons (.idx (.var 7) (.var 10)) (.cons (.idx (.var 8) (.var 10)) .nil)))) (.cons (.ite (.or (.cmp .ne (.call 7 (.cons (.var 11) .nil)) (.lc true (.cmp .eq (.var 13) (.var 10)) (.v 13) (.range1 (.lit (.int 15))) .none [13])) (.or (.cmp .ne (.fld (.var 11) 0) (.idx (.var 2) (.var 10))) (.not (.call 3 (.cons (.call 4 (.cons (.var 11) .nil)) (.cons (.idx (.var 9) (.var 10)) .nil)))))) (.cons (.ret (.some (.lit (.bl false)))) .nil) .nil) (.cons (.asg (.v 12) (.lst true (.cons (.isin (.var 11) [(.cls 0)]) (.cons (.isin (.var 11) [(.bt 0)]) (.cons (.isin (.var 11) [(.cls 13)]) (.cons (.isin (.var 11) [(.bt 1)]) (.cons (.isin (.var 11) [(.bt 2)]) .nil))))))) (.cons (.ite (.cmp .ne (.var 12) (.lst true (.cons (.cmp .lt (.var 10) (.lit (.int 12))) (.cons (.cmp .lt (.var 10) (.lit (.int 12))) (.cons (.chain .le .lt (.lit (.int 12)) (.var 10) (.lit (.int 14))) (.cons (.cmp .ge (.var 10) (.lit (.int 12))) (.cons (.cmp .eq (.var 10) (.lit (.int 14))) .nil))))))) (.cons (.ret (.some (.lit (.bl false)))) .nil) .nil) .nil)))) .nil))
def outF : S := (.for_ (.v 4) (.range1 (.lit (.int 15))) (.cons (.asg (.v 10) (.bin true .mod (.bi true .int (.cons (.bin true .add (.var 3) (.bin true .mul (.lit (.int 4)) (.var 4))) .nil)) (.lit (.int 15)))) (.cons (.for_ (.v 11) (.val (.lst true (.cons (.idx (.var 7) (.var 10)) (.cons (.idx (.var 8) (.var 10)) .nil)))) (.cons (.ite (.or (.cmp .ne (.call 7 (.cons (.var 11) .nil)) (.lc true (.cmp .eq (.var 13) (.var 10)) (.v 13) (.range1 (.lit (.int 15))) .none [13])) (.or (.cmp .ne (.fld (.var 11) 0) (.idx (.var 2) (.var 10))) (.not (.call 3 (.cons (.call 4 (.cons (.var 11) .nil)) (.cons (.idx (.var 9) (.var 10)) .nil)))))) (.cons (.ret (.some (.lit (.bl false)))) .nil) .nil) (.cons (.asg (.v 12) (.lst true (.cons (.isin (.var 11) [(.cls 0)]) (.cons (.isin (.var 11) [(.bt 0)]) (.cons (.isin (.var 11) [(.cls 13)]) (.cons (.isin (.var 11) [(.bt 1)]) (.cons (.isin (.var 11) [(.bt 2)]) .nil))))))) (.cons (.ite (.cmp .ne (.var 12) (.lst true (.cons (.cmp .lt (.var 10) (.lit (.int 12))) (.cons (.cmp .lt (.var 10) (.lit (.int 12))) (.cons (.chain .le .lt (.lit (.int 12)) (.var 10) (.lit (.int 14))) (.cons (.cmp .ge (.var 10) (.lit (.int 12))) (.cons (.cmp .eq (.var 10) (.lit (.int 14))) .nil))))))) (.cons (.ret (.some (.lit (.bl false)))) .nil) .nil) .nil)))) .nil)))
/-- the class of the k-th error -/
def clsN (k : Nat) : Nat := if k < 12 then k + 1 else k + 2
section
variable {d : Nat} {h : MHp}
theorem errors_call (n m : MV) (hn : n.under h.n = true) (hm : m.under h.n = true) : callN defs tb (d + 1) 5 [n, m] h = .ok (.frl (errs n m)) h := by
  refine call_pure (df := df5) rfl rfl (fun h => ?_) ?_
  · show exSs (dsOf defs tb d) b5 [some n, some m, none] h = _
    simp [b5, dsOf, tb, efs, excN, excFs, lineN, errs, eA, eB]
  · simp [errs, eA, eB, MV.under, MV.unders, MV.underf, hn, hm]
theorem named_call (n m : MV) (hn : n.under h.n = true) (hm : m.under h.n = true) : callN defs tb (d + 1) 6 [n, m] h = .ok (.frl (errs n m)) h := by
  refine call_pure (df := df6) rfl rfl (fun h => ?_) ?_
  · show exSs (dsOf defs tb d) b6 [some n, some m, none] h = _
    simp [b6, dsOf, tb, efs, excN, excFs, lineN, errs, eA, eB]
  · simp [errs, eA, eB, MV.under, MV.unders, MV.underf, hn, hm]
def flagsL (c : Nat) : List MV := [1, 2, 3, 4, 5, 6, 7, 8, 9, 10, 11, 12, 14, 15, 16].map fun j => .bl (sub c j)
theorem ty_cls {D : Ds} (c j : Nat) (fs : List (Nat × MV)) : tyIs D (.exc c fs) h (.cls j) = if c < D.nx ∧ j < D.nx then some (D.sub c j) else none := rfl
theorem ty_bt {D : Ds} (c j : Nat) (fs : List (Nat × MV)) : tyIs D (.exc c fs) h (.bt j) = if c < D.nx ∧ j < 3 then some (D.subB c j) else none := rfl
theorem any1 {D : Ds} {v : MV} {t : Ty} {b : Bool} (e : tyIs D v h t = some b) : tyAny D v h [t] = some b := by
  simp only [tyAny, e]
  cases b <;> rfl
theorem flags_call (c : Nat) (fs : List (Nat × MV)) (hc : c < 17) : callN defs tb (d + 1) 7 [.exc c fs] h = .ok (.frl (flagsL c)) h := by
  refine call_pure (df := df7) rfl rfl (fun h => ?_) ?_
  · have key : ∀ j, j < 17 → tyAny (dsOf defs tb d) (.exc c fs) h [.cls j] = some (sub c j) := fun j hj => any1 (by rw [ty_cls]; exact if_pos ⟨hc, hj⟩)
    show exSs (dsOf defs tb d) b7 [some (.exc c fs), none] h = _
    simp [b7, key, lineN, flagsL, -tyAny_cons]
  · simp [flagsL, MV.under, MV.unders]
end
end K61

set_option Elab.async false
set_option linter.all false
set_option maxRecDepth 100000
set_option maxHeartbeats 4000000
namespace K61
open G
section
variable {d : Nat} {h : MHp}
theorem alike_non : callN defs tb (d + 1) 3 [.non, .non] h = .ok (.bl true) h := by
  refine call_pure (df := df3) rfl rfl (fun h => ?_) (by simp [MV.under])
  show exSs (dsOf defs tb d) b3 [some .non, some .non, none, none, none] h = _
  simp [b3]
theorem alike_int (i : Int) : callN defs tb (d + 1) 3 [.int i, .int i] h = .ok (.bl true) h := by
  refine call_pure (df := df3) rfl rfl (fun h => ?_) (by simp [MV.under])
  show exSs (dsOf defs tb d) b3 [some (.int i), some (.int i), none, none, none] h = _
  simp [b3]
theorem alike_str (i : List Nat) : callN defs tb (d + 1) 3 [.str i, .str i] h = .ok (.bl true) h := by
  refine call_pure (df := df3) rfl rfl (fun h => ?_) (by simp [MV.under])
  show exSs (dsOf defs tb d) b3 [some (.str i), some (.str i), none, none, none] h = _
  simp [b3]
theorem alike_pair : callN defs tb (d + 2) 3 [.tup [.int 0, .int 1], .tup [.int 0, .int 1]] h = .ok (.bl true) h := by
  refine call_pure (df := df3) rfl rfl (fun h => ?_) (by simp [MV.under])
  show exSs (dsOf defs tb (d + 1)) b3 [some (.tup [.int 0, .int 1]), some (.tup [.int 0, .int 1]), none, none, none] h = _
  have e : ∀ i, (dsOf defs tb (d + 1)).call 3 [.int i, .int i] h = .ok (.bl true) h := fun i => alike_int (d := d) i
  simp [b3, evE, evI, lcL, Src.item, Src.fuel, wipeF, lineN, e, blsM, tgsN]
theorem alike_five {n : MV} (hn : n ∈ five) : callN defs tb (d + 2) 3 [n, n] h = .ok (.bl true) h := by
  simp only [five, List.mem_cons, List.not_mem_nil, or_false] at hn
  rcases hn with rfl | rfl | rfl | rfl | rfl
  · exact alike_str _
  · exact alike_str _
  · exact alike_non
  · exact alike_int _
  · exact alike_pair
/-- the k-th error, its field -/
def err (k : Nat) (n m : MV) : MV := ((errs n m)[k]?).getD .non
def due (k : Nat) (n m : MV) : MV := ((dueL n m)[k]?).getD .non
def wrd (k : Nat) : MV := (wordsL[k]?).getD .non
def toldL (k : Nat) : List MV := [.bl (decide (k < 12)), .bl (decide (k < 12)), .bl (decide (12 ≤ k) && decide (k < 14)), .bl (decide (12 ≤ k)), .bl (decide (k = 14))]
theorem lt15 {P : Nat → Prop} (h0 : P 0) (h1 : P 1) (h2 : P 2) (h3 : P 3) (h4 : P 4) (h5 : P 5) (h6 : P 6) (h7 : P 7) (h8 : P 8) (h9 : P 9) (h10 : P 10) (h11 : P 11) (h12 : P 12) (h13 : P 13) (h14 : P 14) : ∀ k, k < 15 → P k
  | 0, _ => h0 | 1, _ => h1 | 2, _ => h2 | 3, _ => h3 | 4, _ => h4 | 5, _ => h5 | 6, _ => h6 | 7, _ => h7 | 8, _ => h8 | 9, _ => h9 | 10, _ => h10 | 11, _ => h11 | 12, _ => h12 | 13, _ => h13 | 14, _ => h14
  | k + 15, q => absurd q (by omega)
theorem err_cls (k : Nat) (hk : k < 15) (n m : MV) : ∃ fs, err k n m = .exc (clsN k) fs ∧ fldOf 0 fs = some (wrd k) := by
  refine lt15 (P := fun k => ∃ fs, err k n m = .exc (clsN k) fs ∧ fldOf 0 fs = some (wrd k)) ?_ ?_ ?_ ?_ ?_ ?_ ?_ ?_ ?_ ?_ ?_ ?_ ?_ ?_ ?_ k hk <;> exact ⟨_, rfl, rfl⟩
theorem flags_k (k : Nat) (hk : k < 15) : MV.beqs (flagsL (clsN k)) ((List.range 15).map fun (j : Nat) => MV.bl (decide ((j : Int) = (k : Int)))) = true := by
  refine lt15 (P := fun k => MV.beqs (flagsL (clsN k)) ((List.range 15).map fun (j : Nat) => MV.bl (decide ((j : Int) = (k : Int)))) = true) ?_ ?_ ?_ ?_ ?_ ?_ ?_ ?_ ?_ ?_ ?_ ?_ ?_ ?_ ?_ k hk <;> decide
theorem field_call (k : Nat) (hk : k < 15) (n m : MV) (hu : (due k n m).under h.n = true) : callN defs tb (d + 1) 4 [err k n m] h = .ok (due k n m) h := by
  refine call_pure (df := df4) rfl rfl (fun h => ?_) hu
  show exSs (dsOf defs tb d) b4 [some (err k n m)] h = _
  revert k
  intro k hk _
  have T1 : ∀ (s : List Nat) (xs : List MV), inM (.str s) (.frl (xs)) h = (if MV.plain (.str s) && MV.plains xs && decide ((MV.str s).depth < 60) && decide (MV.depths xs < 59) then some (memM (.str s) xs) else none) := fun _ _ => rfl
  refine lt15 (P := fun k => exSs (dsOf defs tb d) b4 [some (err k n m)] h = .ok (.rt (due k n m)) h) ?_ ?_ ?_ ?_ ?_ ?_ ?_ ?_ ?_ ?_ ?_ ?_ ?_ ?_ ?_ k hk <;>
    simp [b4, err, errs, eA, eB, due, dueL, dsOf, tb, fldM, fldOf, lineN, T1, MV.plain, MV.plains, MV.depth, MV.depths, memM, MV.beq]
end
end K61
set_option Elab.async false
set_option linter.all false
set_option maxRecDepth 100000
set_option maxHeartbeats 4000000
namespace K61
open G
section
variable {d : Nat} {h : MHp}
theorem alike_due (k : Nat) (hk : k < 15) {n : MV} {i : Int} (hn : n ∈ five) : callN defs tb (d + 2) 3 [due k n (.int i), due k n (.int i)] h = .ok (.bl true) h := by
  have a1 := alike_five (d := d) (h := h) hn
  have a2 : callN defs tb (d + 2) 3 [.int i, .int i] h = .ok (.bl true) h := alike_int i
  have a3 : callN defs tb (d + 2) 3 [.non, .non] h = .ok (.bl true) h := alike_non
  refine lt15 (P := fun k => callN defs tb (d + 2) 3 [due k n (.int i), due k n (.int i)] h = .ok (.bl true) h) ?_ ?_ ?_ ?_ ?_ ?_ ?_ ?_ ?_ ?_ ?_ ?_ ?_ ?_ ?_ k hk <;> first | exact a1 | exact a2 | exact a3
def lcX : E := .lc true (.cmp .eq (.var 13) (.var 10)) (.v 13) (.range1 (.lit (.int 15))) .none [13]
theorem lc_run {D : Ds} (k : Nat) (a0 a1 a2 a3 a4 a5 a6 a7 a8 a9 a11 a12 a13 : Option MV) : evE D lcX [a0, a1, a2, a3, a4, a5, a6, a7, a8, a9, some (.int k), a11, a12, a13] h = .ok (.frl ((List.range 15).map fun (j : Nat) => MV.bl (decide ((j : Int) = (k : Int))))) h := by
  unfold lcX
  rw [ev_lc (xs := rangeL 0 15) (f := fun x => match x with | .int j => some (.bl (decide (j = (k : Int)))) | _ => none) (by simp) (by simp [lineN])]
  · simp [lineN]
    simp [rangeL, List.filterMap_map, Function.comp_def]
  · intro x hx
    obtain ⟨j, hj, rfl⟩ := rangeL_mem hx
    simp [wipeF]
theorem dsc (f : Nat) (vs : List MV) (h : MHp) : (dsOf defs tb d).call f vs h = callN defs tb d f vs h := rfl
theorem ne_flags (k : Nat) (hk : k < 15) : eqM (.frl (flagsL (clsN k))) (.frl ((List.range 15).map fun (j : Nat) => MV.bl (decide ((j : Int) = (k : Int))))) h = some true := by
  refine lt15 (P := fun k => eqM (.frl (flagsL (clsN k))) (.frl ((List.range 15).map fun (j : Nat) => MV.bl (decide ((j : Int) = (k : Int))))) h = some true) ?_ ?_ ?_ ?_ ?_ ?_ ?_ ?_ ?_ ?_ ?_ ?_ ?_ ?_ ?_ k hk <;> rfl
theorem idx_words (k : Nat) (hk : k < 15) : idxM (.frl wordsL) (.int k) h = some (wrd k) ∧ eqM (wrd k) (wrd k) h = some true := by
  refine lt15 (P := fun k => idxM (.frl wordsL) (.int k) h = some (wrd k) ∧ eqM (wrd k) (wrd k) h = some true) ?_ ?_ ?_ ?_ ?_ ?_ ?_ ?_ ?_ ?_ ?_ ?_ ?_ ?_ ?_ k hk <;> exact ⟨rfl, rfl⟩
theorem idx_due (k : Nat) (hk : k < 15) (n m : MV) : idxM (.frl (dueL n m)) (.int k) h = some (due k n m) := by
  refine lt15 (P := fun k => idxM (.frl (dueL n m)) (.int k) h = some (due k n m)) ?_ ?_ ?_ ?_ ?_ ?_ ?_ ?_ ?_ ?_ ?_ ?_ ?_ ?_ ?_ k hk <;> rfl
theorem idx_err (k : Nat) (hk : k < 15) (n m : MV) : idxM (.frl (errs n m)) (.int k) h = some (err k n m) := by
  refine lt15 (P := fun k => idxM (.frl (errs n m)) (.int k) h = some (err k n m)) ?_ ?_ ?_ ?_ ?_ ?_ ?_ ?_ ?_ ?_ ?_ ?_ ?_ ?_ ?_ k hk <;> rfl
theorem told_tys (k : Nat) (hk : k < 15) (fs : List (Nat × MV)) : tyAny (dsOf defs tb d) (.exc (clsN k) fs) h [.cls 0] = some (decide (k < 12)) ∧ tyAny (dsOf defs tb d) (.exc (clsN k) fs) h [.bt 0] = some (decide (k < 12)) ∧ tyAny (dsOf defs tb d) (.exc (clsN k) fs) h [.cls 13] = some (decide (12 ≤ k) && decide (k < 14)) ∧
    tyAny (dsOf defs tb d) (.exc (clsN k) fs) h [.bt 1] = some (decide (12 ≤ k)) ∧ tyAny (dsOf defs tb d) (.exc (clsN k) fs) h [.bt 2] = some (decide (k = 14)) := by
  refine lt15 (P := fun k => tyAny (dsOf defs tb d) (.exc (clsN k) fs) h [.cls 0] = some (decide (k < 12)) ∧ tyAny (dsOf defs tb d) (.exc (clsN k) fs) h [.bt 0] = some (decide (k < 12)) ∧ tyAny (dsOf defs tb d) (.exc (clsN k) fs) h [.cls 13] = some (decide (12 ≤ k) && decide (k < 14)) ∧
    tyAny (dsOf defs tb d) (.exc (clsN k) fs) h [.bt 1] = some (decide (12 ≤ k)) ∧ tyAny (dsOf defs tb d) (.exc (clsN k) fs) h [.bt 2] = some (decide (k = 14))) ?_ ?_ ?_ ?_ ?_ ?_ ?_ ?_ ?_ ?_ ?_ ?_ ?_ ?_ ?_ k hk <;> exact ⟨rfl, rfl, rfl, rfl, rfl⟩
theorem told_eq (k : Nat) : eqM (.frl (toldL k)) (.frl (toldL k)) h = some true := by
  rw [eqM_plain] <;> simp [toldL, MV.plain, MV.plains, MV.depth, MV.depths, MV.beq, MV.beqs]
theorem due_under (k : Nat) (hk : k < 15) {n : MV} {i : Int} (hn : n ∈ five) (N : Nat) : (due k n (.int i)).under N = true := by
  have a1 : n.under N = true := by
    simp only [five, List.mem_cons, List.not_mem_nil, or_false] at hn
    rcases hn with rfl | rfl | rfl | rfl | rfl <;> simp [MV.under, MV.unders]
  refine lt15 (P := fun k => (due k n (.int i)).under N = true) ?_ ?_ ?_ ?_ ?_ ?_ ?_ ?_ ?_ ?_ ?_ ?_ ?_ ?_ ?_ k hk <;> first | exact a1 | rfl
theorem inner_run (k : Nat) (hk : k < 15) {n : MV} {i : Int} (hn : n ∈ five) (a0 a1 a3 a4 a5 a6 a7 a8 a12 a13 : Option MV) :
    exSs (dsOf defs tb (d + 2)) inB [a0, a1, some (.frl wordsL), a3, a4, a5, a6, a7, a8, some (.frl (dueL n (.int i))), some (.int k), some (err k n (.int i)), a12, a13] h =
      .ok (.nx [a0, a1, some (.frl wordsL), a3, a4, a5, a6, a7, a8, some (.frl (dueL n (.int i))), some (.int k), some (err k n (.int i)), some (.frl (toldL k)), a13]) h := by
  obtain ⟨fs, he, hf⟩ := err_cls k hk n (.int i)
  have hc : clsN k < 17 := by unfold clsN; split <;> omega
  have c7 : callN defs tb (d + 2) 7 [.exc (clsN k) fs] h = .ok (.frl (flagsL (clsN k))) h := flags_call (d := d + 1) (clsN k) fs hc
  have c4 : callN defs tb (d + 2) 4 [.exc (clsN k) fs] h = .ok (due k n (.int i)) h := by rw [← he]; exact field_call (d := d + 1) k hk n (.int i) (due_under k hk hn _)
  have c3 := alike_due (d := d) (h := h) k hk (i := i) hn
  obtain ⟨w1, w2⟩ := idx_words (h := h) k hk
  have w3 := idx_due (h := h) k hk n (.int i)
  have fc : fldM (dsOf defs tb (d + 2)) (.exc (clsN k) fs) 0 h = some (wrd k) := by
    simp [fldM, dsOf, tb, hc, hf]
  obtain ⟨t1, t2, t3, t4, t5⟩ := told_tys (d := d + 2) (h := h) k hk fs
  have ne := ne_flags (h := h) k hk
  have te := told_eq (h := h) k
  have lc := lc_run (D := dsOf defs tb (d + 2)) (h := h) k a0 a1 (some (.frl wordsL)) a3 a4 a5 a6 a7 a8 (some (.frl (dueL n (.int i)))) (some (.exc (clsN k) fs)) a12 a13
  unfold lcX at lc
  rw [he]
  have z1 : ((k : Int) < 12) ↔ k < 12 := by omega
  have z2 : (12 ≤ (k : Int)) ↔ 12 ≤ k := by omega
  have z3 : ((k : Int) < 14) ↔ k < 14 := by omega
  have z4 : ((k : Int) = 14) ↔ k = 14 := by omega
  unfold toldL at te
  by_cases h12 : 12 ≤ k
  · have h11 : ¬ k < 12 := by omega
    simp [inB, dsc, c7, lc, ne, fc, w1, w2, c4, w3, c3, t1, t2, t3, t4, t5, lineN, -tyAny_cons, -idx_frl, z1, z2, z3, z4, h12, h11, toldL]
    simp [h12, h11] at te
    simp [te]
  · have h11 : k < 12 := by omega
    simp [inB, dsc, c7, lc, ne, fc, w1, w2, c4, w3, c3, t1, t2, t3, t4, t5, lineN, -tyAny_cons, -idx_frl, z1, z2, z3, z4, h12, h11, toldL]
    simp [h12, h11] at te
    simp [te]
end
end K61
set_option Elab.async false
set_option linter.all false
set_option maxRecDepth 100000
set_option maxHeartbeats 4000000
namespace K61
open G
section
variable {d : Nat} {h : MHp}
def FrO (s b n m : MV) (st : Int) (fr : Fr) : Prop := ∃ a4 a10 a11 a12 a13, fr = [some s, some b, some (.frl wordsL), some (.int st), a4, some n, some m, some (.frl (errs n m)), some (.frl (errs n m)), some (.frl (dueL n m)), a10, a11, a12, a13]
theorem outer_turn {s b n : MV} {i st : Int} {t : Nat} {fr : Fr} (hn : n ∈ five) (hF : FrO s b n (.int i) st fr) (hfr : fr.at 4 = some (.int t)) :
    ∃ fr', exSs (dsOf defs tb (d + 2)) outB fr h = .ok (.nx fr') h ∧ FrO s b n (.int i) st fr' := by
  obtain ⟨a4, a10, a11, a12, a13, rfl⟩ := hF
  have e4 : a4 = some (.int t) := hfr
  subst e4
  obtain ⟨k, hk, hk2⟩ : ∃ k : Nat, k < 15 ∧ (st + 4 * (t : Int)) % 15 = (k : Int) := ⟨((st + 4 * (t : Int)) % 15).toNat, by omega, by omega⟩
  have w := idx_err (h := h) k hk n (.int i)
  have s1 : exS (dsOf defs tb (d + 2)) (.asg (.v 10) (.bin true .mod (.bi true .int (.cons (.bin true .add (.var 3) (.bin true .mul (.lit (.int 4)) (.var 4))) .nil)) (.lit (.int 15)))) [some s, some b, some (.frl wordsL), some (.int st), some (.int t), some n, some (.int i), some (.frl (errs n (.int i))), some (.frl (errs n (.int i))), some (.frl (dueL n (.int i))), a10, a11, a12, a13] h =
      .ok (.nx [some s, some b, some (.frl wordsL), some (.int st), some (.int t), some n, some (.int i), some (.frl (errs n (.int i))), some (.frl (errs n (.int i))), some (.frl (dueL n (.int i))), some (.int k), a11, a12, a13]) h := by
    simp [hk2]
  obtain ⟨fr2, h2, e2, a11', a12', a13', rfl, rfl⟩ := for_inv (D := dsOf defs tb (d + 2)) (t := .v 11) (it := .val (.lst true (.cons (.idx (.var 7) (.var 10)) (.cons (.idx (.var 8) (.var 10)) .nil)))) (b := inB) (xs := [err k n (.int i), err k n (.int i)]) (h1 := h) (h := h)
    (fr := [some s, some b, some (.frl wordsL), some (.int st), some (.int t), some n, some (.int i), some (.frl (errs n (.int i))), some (.frl (errs n (.int i))), some (.frl (dueL n (.int i))), some (.int k), a11, a12, a13])
    (P := fun _ fr h' => ∃ a11 a12 a13, fr = [some s, some b, some (.frl wordsL), some (.int st), some (.int t), some n, some (.int i), some (.frl (errs n (.int i))), some (.frl (errs n (.int i))), some (.frl (dueL n (.int i))), some (.int k), a11, a12, a13] ∧ h' = h)
    (by simp [w, lineN, srcOf, -idx_frl]) ⟨_, _, _, rfl, rfl⟩ (fun j x fr h' hx ⟨b11, b12, b13, e1, e2⟩ => by
      subst e1 e2
      have hx' : x = err k n (.int i) := by
        have := List.mem_of_getElem? hx
        simpa using this
      subst hx'
      refine ⟨[some s, some b, some (.frl wordsL), some (.int st), some (.int t), some n, some (.int i), some (.frl (errs n (.int i))), some (.frl (errs n (.int i))), some (.frl (dueL n (.int i))), some (.int k), some (err k n (.int i)), some (.frl (toldL k)), b13], h', .inl ?_, some (err k n (.int i)), some (.frl (toldL k)), b13, rfl, rfl⟩
      rw [evt_v, calm_ok]
      exact inner_run k hk hn _ _ _ _ _ _ _ _ _ _)
  refine ⟨[some s, some b, some (.frl wordsL), some (.int st), some (.int t), some n, some (.int i), some (.frl (errs n (.int i))), some (.frl (errs n (.int i))), some (.frl (dueL n (.int i))), some (.int k), a11', a12', a13'], ?_, some (.int t), some (.int k), a11', a12', a13', rfl⟩
  unfold outB
  rw [seq_ok s1]
  unfold inB at e2
  rw [seq_ok e2, exs_nil]
theorem outer_run {s b n : MV} {i st : Int} {fr : Fr} (hn : n ∈ five) (hF : FrO s b n (.int i) st fr) :
    ∃ fr', exS (dsOf defs tb (d + 2)) outF fr h = .ok (.nx fr') h ∧ FrO s b n (.int i) st fr' := by
  obtain ⟨fr2, h2, e2, F2, rfl⟩ := for_inv (D := dsOf defs tb (d + 2)) (t := .v 4) (it := .range1 (.lit (.int 15))) (b := outB) (xs := rangeL 0 15) (h1 := h) (h := h) (fr := fr) (P := fun _ fr h' => FrO s b n (.int i) st fr ∧ h' = h)
    (by simp) ⟨hF, rfl⟩ (fun j x fr h' hx ⟨F, e⟩ => by
      subst e
      obtain ⟨q, hq, rfl⟩ := rangeL_mem (List.mem_of_getElem? hx)
      obtain ⟨a4, a10, a11, a12, a13, rfl⟩ := F
      obtain ⟨fr', e', F'⟩ := outer_turn (d := d) (h := h') (t := q) (fr := [some s, some b, some (.frl wordsL), some (.int st), some (.int q), some n, some (.int i), some (.frl (errs n (.int i))), some (.frl (errs n (.int i))), some (.frl (dueL n (.int i))), a10, a11, a12, a13]) hn ⟨_, _, _, _, _, rfl⟩ rfl
      refine ⟨fr', h', .inl ?_, F', rfl⟩
      rw [evt_v, calm_ok]
      simpa using e')
  exact ⟨fr2, by unfold outB at e2; unfold outF; exact e2, F2⟩
theorem ev (ns : List Int) (hl : ns.length ≤ 63) : ∃ h', callN defs tb 4 8 [.wrl (ns.map .int)] MHp.empty = .ok (.bl true) h' := by
  rw [callN_def (df := df8) rfl rfl]
  show ∃ h', ((exSs (dsOf defs tb 3) b8 [some (.wrl (ns.map .int)), none, none, none, none, none, none, none, none, none, none, none, none, none] MHp.empty.mark).calm endM).rest MHp.empty = .ok (.bl true) h'
  suffices hs : ∃ h', exSs (dsOf defs tb 3) b8 [some (.wrl (ns.map .int)), none, none, none, none, none, none, none, none, none, none, none, none, none] MHp.empty.mark = .ok (.rt (.bl true)) h' by
    obtain ⟨h', e⟩ := hs
    rw [e]
    show ∃ h2, R.rest MHp.empty (.ok (.bl true) h') = _
    unfold R.rest
    dsimp only
    split <;> exact ⟨_, rfl⟩
  obtain ⟨h1, e1, B1, _, _⟩ := bag_call (T := tb) (d := 2) (h := MHp.empty.mark) (f := 0) (defs := defs) rfl ns hl
  have n0 : MHp.empty.mark.n = 0 := rfl
  rw [n0] at e1 B1
  obtain ⟨j, n, h2, e2, hj, B2, _⟩ := of_call (T := tb) (d := 1) (h := h1) (defs := defs) (f := 1) (g := 2) rfl rfl five B1 (by decide) (by decide)
  have hn : n ∈ five := List.mem_of_getElem? hj
  obtain ⟨i, h3, e3, _, _, B3, _⟩ := take_call (T := tb) (d := 2) (h := h2) (defs := defs) (f := 1) rfl 1000000000 B2 (by decide) (by decide)
  obtain ⟨st, h4, e4, _, _, B4, _⟩ := take_call (T := tb) (d := 2) (h := h3) (defs := defs) (f := 1) rfl 15 B3 (by decide) (by decide)
  have hu : ∀ N, n.under N = true := fun N => by
    have hn' := hn
    simp only [five, List.mem_cons, List.not_mem_nil, or_false] at hn'
    rcases hn' with rfl | rfl | rfl | rfl | rfl <;> simp [MV.under, MV.unders]
  have e5 : callN defs tb 3 5 [n, .int i] h3 = .ok (.frl (errs n (.int i))) h3 := errors_call (d := 2) n (.int i) (hu _) rfl
  have e6 : callN defs tb 3 6 [n, .int i] h3 = .ok (.frl (errs n (.int i))) h3 := named_call (d := 2) n (.int i) (hu _) rfl
  obtain ⟨fr, e7, F7⟩ := outer_run (d := 1) (h := h4) (s := .wrl (ns.map .int)) (b := .ref 0) (n := n) (i := i) (st := st) (fr := [some (.wrl (ns.map .int)), some (.ref 0), some (.frl wordsL), some (.int st), none, some n, some (.int i), some (.frl (errs n (.int i))), some (.frl (errs n (.int i))), some (.frl (dueL n (.int i))), none, none, none, none]) hn ⟨_, _, _, _, _, rfl⟩
  refine ⟨h4, ?_⟩
  unfold outF at e7
  unfold five at e2
  unfold wordsL dueL at e7
  unfold b8
  simp [dsc, e1, e2, e3, e4, e5, e6, e7, lineN, tgsN]
end
end K61
set_option Elab.async false
set_option linter.all false
set_option maxRecDepth 100000
set_option maxHeartbeats 0
namespace K61
open PySem PySem.Spec PyProof.Rows L2 G
theorem facts {P : Program} {w : World} {K : PySem.W.Frag} {h : Heap} {mg : PySem.Str → Option Value} {f : Addr} (X : K.In h) (G : h.Ns mainGlobals mg) (hfa : mg ("law" : PySem.Str) = some (.ref f)) (c : He.SaysD [] fn K) (ck : chkB eds fns fnm tb K = true) :
    ∃ fd : FuncData, (∀ (s : Shared) (v : Value), BindsTo s fd ⟨[v], []⟩ [("_law_script", v)]) ∧ ∀ base : Heap, K.In base → base.Ns mainGlobals mg → FnOk P w K mg base (L2.CX P w) 8 f fd ["_law_script"] (spL K) := by
  have e2 : mg "law" = some (.ref (He.ga K "law")) := chk_glo ck X G (f := 8) rfl
  have e := hfa.symm.trans e2
  cases e
  obtain ⟨fd', F⟩ := c.def_ 8 (d := d8) rfl
  have F : FunD K "law" "law" (defArgs (top 27)) (defBody (top 27)) (defScope (top 27)) [] [] (He.ga K "law") fd' := F
  have b := FunD.bindsA (ps := ["_law_script"]) F fun _ _ _ _ _ _ us hl => match us, hl with | [_], _ => rfl
  exact ⟨fd', fun s v => b s [v] rfl, fun base hX hG => law_ok (d := 4) (law_of (base := base) X G c ck) rfl ⟨⟨_, _, _, _, _, n8, F, sc8, ok8, rfl⟩, rfl, e2, F.kp, F.bindsN fun _ _ _ _ _ _ us hl => match us, hl with | [_], _ => rfl⟩ ev⟩
theorem walk_ofX {l : PySem.W.OpenLaw} {n k : Nat} {q : Program} {loose : List PySem.Str} {XP : (PySem.Str → Option Value) → Heap → Prop} {YP : World → Heap → Prop} {d : DefRec} {x : PySem.Str}
    (hn : l.most = some n) (hn2 : n ≤ sizeLine) (hdf : d.params.defaults = []) (hr : Room k callerA)
    (F : ∀ (w : World) (mg : PySem.Str → Option Value) (fa : Addr) (h : Heap), YP w h → h.Ns mainGlobals mg → mg d.name = some (.ref fa) →
      ∃ (K : PySem.W.Frag) (fd : FuncData) (sp : Sp), K.In h ∧ (∀ (s : Shared) (u : Value), BindsTo s fd ⟨[u], []⟩ [(x, u)]) ∧
        (∀ (H : Hp) (a : Addr) (ns : List Int), ns.length ≤ n → Only H → SqL K H a (ns.map V.int) → sp [.ref a] H (fun v _ => v = .bl true) fun _ _ _ => False) ∧
        ∀ base : Heap, K.In base → base.Ns mainGlobals mg → FnOk l.prog w K mg base (L2.CX l.prog w) k fa fd [x] sp) :
    PySem.W.WalkO q loose XP YP l.row.toRowW d [] (fun f vs => PySem.call f vs) := by
  refine Att.attach_call hn hdf fun w s₀ s₁ mg mb fa o pm cd doc a vs ns G Y ho hd hcd hmg hobj hints hlen hg => ?_
  obtain ⟨K, fd, sp, KX, hb, hsp, hF⟩ := F w mg fa _ Y G.T.g hmg
  exact law_call (CX := L2.CX l.prog w) KX G.T.g G.T.b G.T.builtins G.T.nolimit hg hobj hints (Nat.le_trans hlen hn2) hr hF hb (fun H hO hS => hsp H a ns hlen hO hS) fun H e s' ⟨_, _, _, _, _, _, _, _, _, _, _, _, z⟩ => z
end K61
open PySem PySem.W PySem.Calls PyProof.Rows
theorem PySem.Challenge.cw_rubgrove_k61_error_classes_holds : PySem.Challenge.rw_rubgrove_k61_error_classes.Holds := by
  w_on; o_law
  refine HandSHeadRun.head_any (r := OpenLaw.row PySem.Challenge.rw_rubgrove_k61_error_classes) (q := view (OpenLaw.row PySem.Challenge.rw_rubgrove_k61_error_classes).prog [27]) (H := K61.hk) (ob := K61.ob) (M := 6000) (loose := K61.names) (d := HandSHeadRun.topDef (OpenLaw.row PySem.Challenge.rw_rubgrove_k61_error_classes).prog 27) (kwd := []) K61.ob_eq
    (by kernel_rfl) (fun s => by kernel_rfl) K61.run (by kernel_rfl) (by kernel_rfl) (by kernel_rfl) (by rfl) (by first | assumption | decide +kernel) (by decide +kernel) ⟨rfl, rfl, rfl, rfl, rfl, by decide +kernel⟩ ?hw ?hc
  case hw => w_witness2
  case hc =>
    refine K61.walk_ofX (l := PySem.Challenge.rw_rubgrove_k61_error_classes) (n := 63) (k := 8) (x := "_law_script") rfl (by decide) (by kernel_rfl) ⟨rfl, by decide, by decide⟩ ?_
    intro w mg fa h Y hG hmg0
    obtain ⟨K, KX, c, ck⟩ := Y
    have hmg : mg ("law" : PySem.Str) = some (.ref fa) := by
      have e : (HandSHeadRun.topDef (OpenLaw.row PySem.Challenge.rw_rubgrove_k61_error_classes).prog 27).name = ("law" : PySem.Str) := by kernel_rfl
      rw [← e]
      exact hmg0
    obtain ⟨fd, hb, hF⟩ := K61.facts (P := (PySem.Challenge.rw_rubgrove_k61_error_classes).prog) (w := w) KX hG hmg c ck
    exact ⟨K, fd, G.spL K, KX, hb, fun H a ns hl hO hS => ⟨a, ns, rfl, hl, G.frl_of hO hS, fun _ => rfl⟩, hF⟩

