import PyProof.Rows.All
import Wide.All
import OpenK.AllK
import Wide.FinOn
import PySem.Str
import PySem.PyData
import PySem.Syntax
import PyProof.P3Statements
import PyProof.ReprReads
import PyProof.StrBlock
import PyProof.StrBlockL
import KE.IntText
import HandS.ForMost
import HandS.ForExc
import HandS.CallSlots
import HandS.Lambda
import HandS.Wide
import HandS.TupAny
import HandS.Codes
import HandS.StrMore
import HandS.Gcd
import HandS.Flow
import HandS.FStr
import HandS.IsInst
import HandS.TupMul
import PyProof.ReprRoads
import HandS.Iter
import HandS.Comp
import HandS.Zip
import PyProof.ZipIter
import HandS.ExcInit
import HandS.ExcField
import HandS.TryMany
import HandS.Style
import HandS.ExcIs
import KE.KExcIs
import HandS.Ends
import HandS.Words
import HandS.EndTab
import HandS.Text
import PyProof.ReprLen
import PyProof.Rows.StrDigitsNeg
import PyProof.StrLawsRepr
import PySem.Challenge.RW_meansmeet_k02_ratios
section
set_option linter.all false
/-! MMCore: a small evaluator of the programs' fragment over plain data with a store. -/
namespace MM
open PySem

/-- a value: data that never changes (fl: a list that nobody changes, obj: an instance that nobody changes), or a place in the store -/
inductive D where
  | non | bl (b : Bool) | int (i : Int) | str (s : Str) | tup (xs : List D) | loc (n : Nat)
  | fl (xs : List D)
  | obj (c : Str) (ns : List Str) (xs : List D)
  deriving Inhabited
/-! ### the form of programs -/
/-- what isinstance asks for -/
inductive Ty where
  | int | bool | str | tuple | list | dict | own (c : Str)
  deriving DecidableEq
/-- a built-in function -/
inductive Bf where
  | bint | bstr | blen | blist | btuple | babs | ball | bany | brepr | bgcd | bsum | bmin | bmax
  deriving DecidableEq
/-- a built-in method -/
inductive Mt where
  | append | extend | pop | popAt | split | removeprefix | startswith | join | get1 | get2 | listClear
  deriving DecidableEq
inductive Tg where
  | n (i : Nat) | t (is : List Nat)
mutual
inductive E where
  | v (i : Nat)
  | con (d : D)
  | glob (x : Str) (d : D)
  | bin (op : Operator) (a b : E)
  | neg (a : E) | inv (a : E) | not (a : E)
  | cmp (op : CmpOp) (a b : E)
  | chain (o1 o2 : CmpOp) (a b c : E)
  | and (a b : E) | or (a b : E) | ite (c a b : E)
  | tup (es : Es) | lst (es : Es) | dic (ps : Ps)
  | idx (a i : E)
  | sl (a lo hi : E)
  | omit
  | attr (a : E) (f : Str)
  | call (f : Str) (as : Es)
  | blt (b : Bf) (as : Es)
  | isin (a : E) (ts : List Ty)
  | meth (m : Mt) (o : E) (as : Es)
  | comp (own : List Nat) (t : Tg) (it : It) (cond elt : E)
  | fstr (ps : Es)
  | exF (f : Str) | exIs (cs : List Str)
  | frz (a : E)
  | callH (f : Str) (b : E) (as : Es) | callv
  | comp2 (own : List Nat) (t : Tg) (it : It) (cond : E) (t1 : Tg) (it1 : It) (cond1 elt : E)
  | new (c : Str) (as : Es) | prop (a : E) (f : Str) | mcall (a : E) (m : Str) (as : Es)
inductive It where
  | e (a : E) | rng1 (a : E) | rng2 (a b : E) | zip (a b : E) | enum (a : E)
inductive Es where
  | nil | cons (e : E) (es : Es)
inductive Ps where
  | nil | cons (k : Sum Int Str) (e : E) (ps : Ps) | consE (k e : E) (ps : Ps)
end
mutual
inductive S where
  | asg (i : Nat) (e : E)
  | asgT (is : List Nat) (e : E)
  | par (is : List Nat) (es : Es)
  | set (o i e : E)
  | setF (o : E) (f : Str) (e : E)
  | aug (i : Nat) (op : Operator) (e : E)
  | expr (e : E)
  | ret (e : E) | retN
  | ife (c : E) (a b : Ss)
  | for (t : Tg) (it : It) (body : Ss)
  | whl (c : E) (body : Ss)
  | brk | cnt | pass
  | raise (c : Str) (fl : List Str) (as : Es)
  | try (body : Ss) (hs : Hs)
  | forS (i : Nat) (g : Str) (es : Es) (op : CmpOp) (rhs : E) (body : Ss)
inductive Ss where
  | nil | cons (s : S) (ss : Ss)
inductive Hs where
  | nil | cons (cs : List Str) (slot : Option Nat) (suite : Ss) (rest : Hs)
end
/-- what a place of the store holds: a list, a list that is only read, a dict with int and text keys, an instance -/
inductive Cell where
  | lst (xs : List D) | rol (xs : List D) | dic (kvs : List (D × D)) | ins (c : Str) (fs : List (Str × D))
abbrev Store := List Cell
abbrev Env := List (Option D)
/-- a frame below: its names, the lambda that it hands -/
abbrev Fr := Env × Option E
structure Ex where
  cls : Str
  fs : List (Str × D)
inductive Res (α : Type) where
  | ok (a : α) (st : Store) | exc (e : Ex) (st : Store) | bad
abbrev M (α : Type) := Store → Res α
def Res.bind {α β : Type} (r : Res α) (k : α → Store → Res β) : Res β :=
  match r with | .ok a st => k a st | .exc e st => .exc e st | .bad => .bad
@[simp] theorem Res.bind_ok {α β : Type} (a : α) (st : Store) (k : α → Store → Res β) : (Res.ok a st).bind k = k a st := rfl
@[simp] theorem Res.bind_exc {α β : Type} (e : Ex) (st : Store) (k : α → Store → Res β) : (Res.exc e st : Res α).bind k = .exc e st := rfl
@[simp] theorem Res.bind_bad {α β : Type} (k : α → Store → Res β) : (Res.bad : Res α).bind k = .bad := rfl
inductive SRes where
  | nxt (ρ : Env) (st : Store) | ret (d : D) (st : Store) | brk (ρ : Env) (st : Store) | cnt (ρ : Env) (st : Store) | exc (e : Ex) (ρ : Env) (st : Store) | bad

/-! ### limits: one more than the greatest place that is named -/
mutual
def D.lim : D → Nat
  | .tup xs => D.lims xs
  | .fl xs => D.lims xs
  | .obj _ _ xs => D.lims xs
  | .loc n => n + 1
  | .non => 0 | .bl _ => 0 | .int _ => 0 | .str _ => 0
def D.lims : List D → Nat
  | [] => 0
  | x :: r => max x.lim (D.lims r)
end
def Cell.lim : Cell → Nat
  | .lst xs => D.lims xs
  | .rol xs => D.lims xs
  | .dic kvs => max (D.lims (kvs.map (·.1))) (D.lims (kvs.map (·.2)))
  | .ins _ fs => D.lims (fs.map (·.2))
def exLim (e : Ex) : Nat := D.lims (e.fs.map (·.2))
/-- st' is st but for cells that name only places of st -/
def Mod (st st' : Store) : Prop := st'.length = st.length ∧ ∀ (i : Nat) (c : Cell), st'[i]? = some c → st[i]? = some c ∨ Cell.lim c ≤ st.length
open Classical in
/-- what was laid and is named no more is dropped -/
noncomputable def gc (st st1 : Store) (l : Nat) : Store :=
  if l ≤ st.length ∧ st.length ≤ st1.length ∧ Mod st (st1.take st.length) then st1.take st.length else st1
theorem Mod.refl (st : Store) : Mod st st := ⟨rfl, fun _ _ h => .inl h⟩
theorem Mod.set {st : Store} {i : Nat} {c : Cell} (h : Cell.lim c ≤ st.length) : Mod st (st.set i c) := ⟨List.length_set, fun j d e => by
  by_cases hj : i = j
  · subst hj
    rw [List.getElem?_set] at e
    simp only [if_true] at e
    split at e
    · cases e; exact .inr h
    · cases e
  · rw [List.getElem?_set_ne hj] at e
    exact .inl e⟩
theorem Mod.trans {a b c : Store} (h : Mod a b) (h' : Mod b c) : Mod a c := ⟨h'.1.trans h.1, fun i d e => by
  rcases h'.2 i d e with q | q
  · exact h.2 i d q
  · exact .inr (by rw [h.1] at q; exact q)⟩
@[simp] theorem gc_same (st : Store) (l : Nat) : gc st st l = st := by
  unfold gc
  split
  · exact List.take_length
  · rfl
theorem gc_mod {st st' g : Store} {l : Nat} (h : Mod st st') (hl : l ≤ st.length) : gc st (st' ++ g) l = st' := by
  have e : (st' ++ g).take st.length = st' := by rw [← h.1]; exact List.take_left
  unfold gc
  rw [e, if_pos ⟨hl, by rw [List.length_append, ← h.1]; exact Nat.le_add_right _ _, h⟩]
theorem gc_app {st g : Store} {l : Nat} (hl : l ≤ st.length) : gc st (st ++ g) l = st := gc_mod (Mod.refl st) hl
theorem gc_mod0 {st st' : Store} {l : Nat} (h : Mod st st') : gc st st' l = st' := by
  unfold gc
  split
  · rw [← h.1]; exact List.take_length
  · rfl

/-! ### deep data -/
mutual
def toPw (prev : Nat → Option PyData) : D → Option PyData
  | .non => some .none
  | .bl b => some (.bool b)
  | .int i => some (.int i)
  | .str s => some (.str s)
  | .tup xs => (toPws prev xs).map .tuple
  | .fl xs => (toPws prev xs).map .list
  | .obj _ _ _ => none
  | .loc n => prev n
def toPws (prev : Nat → Option PyData) : List D → Option (List PyData)
  | [] => some []
  | x :: r => match toPw prev x, toPws prev r with | some a, some b => some (a :: b) | _, _ => none
end
def pcell (prev : Nat → Option PyData) : Cell → Option PyData
  | .lst xs => (toPws prev xs).map .list
  | .rol xs => (toPws prev xs).map .list
  | .dic kvs => match toPws prev (kvs.map (·.1)), toPws prev (kvs.map (·.2)) with | some a, some b => some (.dict (a.zip b)) | _, _ => none
  | .ins _ _ => none
def pcellN (st : Store) : Nat → Nat → Option PyData
  | 0, _ => none
  | n + 1, l => match st[l]? with | some c => pcell (pcellN st n) c | none => none
def toP (st : Store) (d : D) : Option PyData := toPw (pcellN st 30) d

/-! ### values' operations -/
def itemsOf (st : Store) : D → Option (List D)
  | .tup xs => some xs
  | .fl xs => some xs
  | .loc n => match st[n]? with | some (.lst xs) => some xs | some (.rol xs) => some xs | _ => none
  | _ => none
def intLog (i : Int) : Nat := i.natAbs.log2
def big : Nat := 16777216
/-- the place that an index names -/
def ixOf (n : Nat) (i : Int) : Option Nat := if 0 ≤ i then (if i < (n : Int) then some i.toNat else none) else (if 0 ≤ i + (n : Int) then some (i + (n : Int)).toNat else none)
/-- a slice's end -/
def sIxD (n d : Nat) : Option Int → Nat
  | none => d
  | some v => if v < 0 then (v + (n : Int)).toNat else min v.toNat n
def cutD {α : Type} (xs : List α) (lo hi : Option Int) : List α := (xs.drop (sIxD xs.length 0 lo)).take (sIxD xs.length xs.length hi - sIxD xs.length 0 lo)
/-- a list's items -/
def lstOf (st : Store) : D → Option (List D)
  | .fl xs => some xs
  | .loc n => match st[n]? with | some (.lst xs) => some xs | some (.rol xs) => some xs | _ => none
  | _ => none
def catD (a b : D) (st : Store) : Res D :=
  match lstOf st a, lstOf st b with
  | some xs, some ys => if xs.length + ys.length ≤ big then .ok (.loc st.length) (st ++ [.lst (xs ++ ys)]) else .bad
  | _, _ => .bad
def repD (a : D) (k : Int) (st : Store) : Res D :=
  match (match a with | .loc n => st[n]? | _ => none) with
  | some (.lst xs) => if xs.length * k.toNat ≤ big ∧ -(2 ^ 63) ≤ k ∧ k < 2 ^ 63 then .ok (.loc st.length) (st ++ [.lst (List.replicate k.toNat xs).flatten]) else .bad
  | _ => .bad
def addD (a b : D) (st : Store) : Res D :=
  match a, b with
  | .int i, .int j => .ok (.int (i + j)) st
  | .str x, .str y => if x.length + y.length ≤ big then .ok (.str (x ++ y)) st else .bad
  | .tup xs, .tup ys => if xs.length + ys.length ≤ big then .ok (.tup (xs ++ ys)) st else .bad
  | .fl xs, b => catD (.fl xs) b st
  | .loc n, b => catD (.loc n) b st
  | _, _ => .bad
def mulD (a b : D) (st : Store) : Res D :=
  match a, b with
  | .int i, .int j => if intLog i + intLog j < 1000000 then .ok (.int (i * j)) st else .bad
  | .tup xs, .int k => if xs ≠ [] ∧ 2 ≤ k ∧ k ≤ 1000 ∧ xs.length ≤ 1000 then .ok (.tup (List.replicate k.toNat xs).flatten) st else .bad
  | .loc n, .int k => repD (.loc n) k st
  | _, _ => .bad
def binD (op : Operator) (a b : D) (st : Store) : Res D :=
  match op with
  | .Add => addD a b st
  | .Sub => match a, b with | .int i, .int j => .ok (.int (i - j)) st | _, _ => .bad
  | .Mult => mulD a b st
  | .FloorDiv => match a, b with | .int i, .int j => if 0 < j ∧ intLog j < 9000 then .ok (.int (i / j)) st else .bad | _, _ => .bad
  | .Mod => match a, b with | .int i, .int j => if 0 < j then .ok (.int (i % j)) st else .bad | _, _ => .bad
  | .Pow => match a, b with | .int i, .int j => if 0 ≤ j ∧ j ≤ 1000000 ∧ i.natAbs < 2 ^ 64 then .ok (.int (i ^ j.toNat)) st else .bad | _, _ => .bad
  | .LShift => match a, b with | .int i, .int j => if 0 ≤ j ∧ j ≤ 1000000 ∧ i.natAbs < 2 ^ 64 then .ok (.int (i * 2 ^ j.toNat)) st else .bad | _, _ => .bad
  | .BitAnd => match a, b with | .int i, .int j => .ok (.int (Builtin.bitAnd i j)) st | _, _ => .bad
  | .BitOr => match a, b with | .int i, .int j => .ok (.int (Builtin.bitOr i j)) st | _, _ => .bad
  | .BitXor => match a, b with | .int i, .int j => .ok (.int (Builtin.bitXor i j)) st | _, _ => .bad
  | .RShift => match a, b with | .int i, .int j => if 0 ≤ j then .ok (.int (i / 2 ^ j.toNat)) st else .bad | _, _ => .bad
  | _ => .bad
/-- two data that == may be asked of -/
def plainP (x : PyData) : Bool := x.canLay0 && decide (x.depth ≤ 64)
def eqP (a b : D) (st : Store) : Option Bool :=
  match toP st a, toP st b with
  | some x, some y => if plainP x && plainP y then some (PyData.eqv x y) else none
  | _, _ => none
def eqD (a b : D) (st : Store) : Option Bool :=
  match a, b with
  | .str x, .str y => some (decide (x = y))
  | a, b => eqP a b st
/-- a value that the flat `in` compares: a number, a text, a truth value, None -/
def flatD : D → Bool
  | .non => true | .bl _ => true | .int _ => true | .str _ => true | .tup _ => false | .loc _ => false | .fl _ => false | .obj _ _ _ => false
def eqF : D → D → Bool
  | .non, .non => true
  | .bl a, .bl b => a == b
  | .bl a, .int j => (if a then 1 else 0) == j
  | .int i, .bl b => i == (if b then 1 else 0)
  | .int i, .int j => i == j
  | .str x, .str y => x == y
  | _, _ => false
/-- a key of a dict: a number or a text -/
def keyD : D → Option (Sum Int Str)
  | .int i => some (.inl i)
  | .str s => some (.inr s)
  | _ => none
def ofKey : Sum Int Str → D
  | .inl i => .int i
  | .inr s => .str s
def findK (k : Sum Int Str) : List (D × D) → Option D
  | [] => none
  | (a, v) :: r => if keyD a = some k then some v else findK k r
def putK (k : Sum Int Str) (v : D) (kvs : List (D × D)) : List (D × D) :=
  if (findK k kvs).isSome then kvs.map (fun p => if keyD p.1 = some k then (p.1, v) else p) else kvs ++ [(ofKey k, v)]
def dropKD (k : Sum Int Str) (kvs : List (D × D)) : List (D × D) := kvs.filter fun p => decide (keyD p.1 ≠ some k)
def inD (x y : D) (st : Store) : Option Bool :=
  match y with
  | .str t => match x with | .str s => some (!(Builtin.Str.occurrences t s 0 t.length 1).isEmpty) | _ => none
  | .tup ys => if flatD x && ys.all flatD then some (ys.any fun y => eqF y x) else none
  | .fl ys => if flatD x && ys.all flatD then some (ys.any fun y => eqF y x) else none
  | .loc n => match st[n]? with
    | some (.lst ys) => if flatD x && ys.all flatD then some (ys.any fun y => eqF y x) else none
    | some (.rol ys) => if flatD x && ys.all flatD then some (ys.any fun y => eqF y x) else none
    | some (.dic kvs) => match keyD x with | some k => some (findK k kvs).isSome | none => none
    | _ => none
  | _ => none
def cmpD (op : CmpOp) (a b : D) (st : Store) : Option Bool :=
  match op with
  | .Eq => eqD a b st
  | .NotEq => (eqD a b st).map (!·)
  | .Lt => match a, b with | .int i, .int j => some (decide (i < j)) | _, _ => none
  | .LtE => match a, b with | .int i, .int j => some (decide (i ≤ j)) | _, _ => none
  | .Gt => match a, b with | .int i, .int j => some (decide (j < i)) | _, _ => none
  | .GtE => match a, b with | .int i, .int j => some (decide (j ≤ i)) | _, _ => none
  | .Is => match b with | .non => some (match a with | .non => true | _ => false) | _ => none
  | .IsNot => match b with | .non => some (match a with | .non => false | _ => true) | _ => none
  | .In => inD a b st
  | .NotIn => (inD a b st).map (!·)
/-- truth -/
def truD (d : D) (st : Store) : Option Bool :=
  match d with
  | .non => some false
  | .bl b => some b
  | .int i => some (i != 0)
  | .str s => if s.length ≤ big then some (s.length != 0) else none
  | .tup xs => some (!xs.isEmpty)
  | .fl xs => some (!xs.isEmpty)
  | .obj _ _ _ => none
  | .loc n => match st[n]? with | some (.lst xs) => some (!xs.isEmpty) | some (.rol xs) => some (!xs.isEmpty) | some (.dic kvs) => some (!kvs.isEmpty) | _ => none
/-- an item -/
def idxD (a i : D) (st : Store) : Option D :=
  match a, i with
  | .tup xs, .int k => (ixOf xs.length k).bind fun j => xs[j]?
  | .fl xs, .int k => (ixOf xs.length k).bind fun j => xs[j]?
  | .str z, .int k => if z.length ≤ big then ((ixOf z.cps.toList.length k).bind fun j => z.cps.toList[j]?).map fun c => .str ⟨#[c]⟩ else none
  | .loc n, .int k => match st[n]? with
    | some (.lst xs) => (ixOf xs.length k).bind fun j => xs[j]?
    | some (.rol xs) => (ixOf xs.length k).bind fun j => xs[j]?
    | some (.dic kvs) => findK (.inl k) kvs
    | _ => none
  | .loc n, .str s => match st[n]? with
    | some (.dic kvs) => findK (.inr s) kvs
    | _ => none
  | _, _ => none
def partD : D → Option (Option Int)
  | .non => some none
  | .int i => some (some i)
  | _ => none
def slD (a lo hi : D) (st : Store) : Res D :=
  match partD lo, partD hi with
  | some l, some h => match a with
    | .tup xs => .ok (.tup (cutD xs l h)) st
    | .fl xs => .ok (.loc st.length) (st ++ [.lst (cutD xs l h)])
    | .str z => if z.length ≤ big then .ok (.str ⟨(cutD z.cps.toList l h).toArray⟩) st else .bad
    | .loc n => match st[n]? with
      | some (.lst xs) => .ok (.loc st.length) (st ++ [.lst (cutD xs l h)])
      | some (.rol xs) => .ok (.loc st.length) (st ++ [.lst (cutD xs l h)])
      | _ => .bad
    | _ => .bad
  | _, _ => .bad
/-- a place stored to -/
def setD (o i v : D) (st : Store) : Option Store :=
  match o with
  | .loc n => match st[n]? with
    | some (.lst xs) => match i with
      | .int k => match ixOf xs.length k with | some j => some (st.set n (.lst (xs.set j v))) | none => none
      | _ => none
    | some (.dic kvs) => match keyD i with
      | some k => if kvs.length < big then some (st.set n (.dic (putK k v kvs))) else none
      | none => none
    | _ => none
  | _ => none
def putFD (f : Str) (v : D) : List (Str × D) → List (Str × D)
  | [] => [(f, v)]
  | (g, w) :: r => if f = g then (g, v) :: r else (g, w) :: putFD f v r
def lookF (f : Str) : List (Str × D) → Option D
  | [] => none
  | (g, w) :: r => if f = g then some w else lookF f r
def getFD (o : D) (f : Str) (st : Store) : Option D :=
  match o with
  | .obj _ ns xs => lookF f (ns.zip xs)
  | .loc n => match st[n]? with | some (.ins _ fs) => lookF f fs | _ => none
  | _ => none
def setFD (o : D) (f : Str) (v : D) (st : Store) : Option Store :=
  match o with
  | .loc n => match st[n]? with | some (.ins c fs) => if fs.length < 1000 then some (st.set n (.ins c (putFD f v fs))) else none | _ => none
  | _ => none

/-- a def: how many parameters, how many slots, the body -/
structure Fn where
  arity : Nat
  slots : Nat
  body : Ss
  hi : Bool := false
/-- what a call of a def of the text gives -/
abbrev Orc := List Fr → Str → List D → M D

/-! ### built-in functions and methods on values -/
mutual
/-- no list in it -/
def noL : PyData → Bool
  | .none => true | .bool _ => true | .int _ => true | .str _ => true
  | .list _ => false
  | .tuple xs => noLs xs
  | .dict kvs => noLp kvs
def noLs : List PyData → Bool
  | [] => true
  | x :: xs => noL x && noLs xs
def noLp : List (PyData × PyData) → Bool
  | [] => true
  | (k, v) :: r => noL k && noL v && noLp r
end

def boolsOf : List D → Option (List Bool)
  | [] => some []
  | .bl b :: r => (boolsOf r).map (b :: ·)
  | _ :: _ => none
def intsOf : List D → Option (List Int)
  | [] => some []
  | .int i :: r => (intsOf r).map (i :: ·)
  | _ :: _ => none
def strsOf : List D → Option (List Str)
  | [] => some []
  | .str x :: r => (strsOf r).map (x :: ·)
  | _ :: _ => none
def lenD (d : D) (st : Store) : Option Nat :=
  match d with
  | .str s => if s.length ≤ big then some s.length else none
  | .tup xs => some xs.length
  | .fl xs => some xs.length
  | .loc n => match st[n]? with | some (.lst xs) => some xs.length | some (.rol xs) => some xs.length | some (.dic kvs) => some kvs.length | _ => none
  | _ => none
def bltD (b : Bf) (ds : List D) (st : Store) : Res D :=
  match b, ds with
  | .bint, [.int i] => .ok (.int i) st
  | .bint, [.bl k] => .ok (.int (if k then 1 else 0)) st
  | .bint, [.str s] => match PySem.intText? s with | some n => if s.length ≤ 640 then .ok (.int n) st else .bad | none => .bad
  | .bstr, [.int i] => if intLog i < 1920 then .ok (.str (toString i)) st else .bad
  | .blen, [d] => match lenD d st with | some n => .ok (.int n) st | none => .bad
  | .blist, [d] => match itemsOf st d with | some xs => .ok (.loc st.length) (st ++ [.lst xs]) | none => .bad
  | .btuple, [d] => match itemsOf st d with | some xs => .ok (.tup xs) st | none => .bad
  | .babs, [.int i] => .ok (.int (if i < 0 then -i else i)) st
  | .ball, [d] => match lstOf st d with | some xs => (match boolsOf xs with | some bs => .ok (.bl (bs.all id)) st | none => .bad) | _ => .bad
  | .bany, [d] => match lstOf st d with | some xs => (match boolsOf xs with | some bs => .ok (.bl (bs.any id)) st | none => .bad) | _ => .bad
  | .brepr, [d] => match toP st d with | some x => if x.showable && decide (x.shown.length ≤ big) && decide (x.depth ≤ 64) && (!(x.hasDict) || noL x) then .ok (.str x.shown) st else .bad | none => .bad
  | .bgcd, [.int i, .int j] => .ok (.int ((Nat.gcd i.natAbs j.natAbs : Nat) : Int)) st
  | .bsum, [d] => match lstOf st d with | some xs => (match intsOf xs with | some ns => .ok (.int ns.sum) st | none => .bad) | _ => .bad
  | .bmin, [.int i, .int j] => .ok (.int (if j < i then j else i)) st
  | .bmax, [.int i, .int j] => .ok (.int (if j > i then j else i)) st
  | _, _ => .bad
/-- is a value of that type -/
def isTy (c : Ty) (d : D) (st : Store) : Option Bool :=
  match c with
  | .own c => match d with | .obj k _ _ => some (decide (k = c)) | .loc n => (match st[n]? with | some (.ins k _) => some (decide (k = c)) | some _ => some false | none => none) | _ => some false
  | .int => match d with | .int _ => some true | .bl _ => some true | _ => some false
  | .bool => match d with | .bl _ => some true | _ => some false
  | .str => match d with | .str _ => some true | _ => some false
  | .tuple => match d with | .tup _ => some true | _ => some false
  | .list => match d with | .fl _ => some true | .loc n => (match st[n]? with | some (.lst _) => some true | some (.rol _) => some true | some _ => some false | none => none) | _ => some false
  | .dict => match d with | .loc n => (match st[n]? with | some (.dic _) => some true | some _ => some false | none => none) | _ => some false
def isTys (cs : List Ty) (d : D) (st : Store) : Option Bool :=
  match cs with
  | [] => some false
  | c :: r => match isTy c d st, isTys r d st with | some a, some b => some (a || b) | _, _ => none
def methD (m : Mt) (o : D) (ds : List D) (st : Store) : Res D :=
  match m, o, ds with
  | .append, .loc n, [d] => match st[n]? with | some (.lst xs) => if xs.length < big then .ok .non (st.set n (.lst (xs ++ [d]))) else .bad | _ => .bad
  | .extend, .loc n, [.loc k] => match st[n]?, st[k]? with | some (.lst xs), some (.lst ys) => if xs.length + ys.length ≤ big then .ok .non (st.set n (.lst (xs ++ ys))) else .bad | _, _ => .bad
  | .pop, .loc n, [] => match st[n]? with | some (.lst xs) => (match xs.getLast? with | some d => .ok d (st.set n (.lst xs.dropLast)) | none => .bad) | _ => .bad
  | .popAt, .loc n, [.int i] => match st[n]? with
    | some (.lst xs) => (match ixOf xs.length i with | some j => (match xs[j]? with | some d => if -(2 ^ 63) ≤ i ∧ i < 2 ^ 63 then .ok d (st.set n (.lst (xs.eraseIdx j))) else .bad | none => .bad) | none => .bad)
    | _ => .bad
  | .split, .str s, [.str t] => if t.length ≠ 0 ∧ s.length + 2 ≤ big then .ok (.loc st.length) (st ++ [.lst ((Txt.split s t).map .str)]) else .bad
  | .removeprefix, .str s, [.str t] => if s.length ≤ big then .ok (.str (Txt.removeprefix s t)) st else .bad
  | .startswith, .str s, [.str t] => .ok (.bl (Txt.startswith s t)) st
  | .get2, .loc n, [k, d] => match st[n]?, keyD k with | some (.dic kvs), some k => .ok ((findK k kvs).getD d) st | _, _ => .bad
  | .get1, .loc n, [k] => match st[n]?, keyD k with | some (.dic kvs), some k => .ok ((findK k kvs).getD .non) st | _, _ => .bad
  | _, _, _ => .bad

/-- the receiver is of the method's type -/
def recvD (m : Mt) (d : D) (st : Store) : Bool :=
  match d with
  | .str _ => (match m with | .split => true | .removeprefix => true | .startswith => true | .join => true | _ => false)
  | .loc n => match st[n]? with
    | some (.lst _) => (match m with | .append => true | .extend => true | .pop => true | .popAt => true | .listClear => true | _ => false)
    | some (.dic _) => (match m with | .get1 => true | .get2 => true | _ => false)
    | _ => false
  | _ => false

/-! ### the evaluator -/
def asgN : List Nat → List D → Env → Option Env
  | [], [], ρ => some ρ
  | i :: is, d :: ds, ρ => asgN is ds (ρ.set i (some d))
  | _, _, _ => none
def asgTg (t : Tg) (d : D) (ρ : Env) : Option Env :=
  match t with
  | .n i => some (ρ.set i (some d))
  | .t is => match d with | .tup xs => asgN is xs ρ | _ => none
def tgSlots : Tg → List Nat
  | .n i => [i]
  | .t is => is
def wipeE (ρ : Env) : List Nat → Env
  | [] => ρ
  | i :: is => (wipeE ρ is).set i none
def wOk (ws : List (Nat × List D)) (st : Store) : Prop := ∀ p ∈ ws, st[p.1]? = some (.lst p.2)
def negD (d : D) (st : Store) : Res D := match d with | .int i => .ok (.int (-i)) st | _ => .bad
def invD (d : D) (st : Store) : Res D := match d with | .int i => .ok (.int (-i - 1)) st | _ => .bad
def ofB (o : Option Bool) (st : Store) : Res D := match o with | some k => .ok (.bl k) st | none => .bad
def ofD (o : Option D) (st : Store) : Res D := match o with | some d => .ok d st | none => .bad
def noExc {α : Type} (r : Res α) : Res α := match r with | .exc _ _ => .bad | r => r
def range0 (lo : Int) (n : Nat) : List D := (List.range n).map fun (i : Nat) => .int (lo + (i : Int))
def small62 (i : Int) : Prop := -(2 ^ 62) ≤ i ∧ i < 2 ^ 62
noncomputable instance (i : Int) : Decidable (small62 i) := Classical.propDecidable _
/-- a part of an f-string -/
def fmtD (d : D) : Option Str :=
  match d with
  | .str s => if s.length ≤ big then some s else none
  | .int i => if intLog i < 1920 then some (toString i) else none
  | _ => none
/-- what a for walks: its items, and the lists that must stay as they are -/
abbrev Src := List D × List (Nat × List D)
noncomputable def srcOf (st : Store) (d : D) (st1 : Store) : Res Src :=
  match d with
  | .tup xs => .ok (xs, []) (gc st st1 (D.lims xs))
  | .fl xs => .ok (xs, []) (gc st st1 (D.lims xs))
  | .str z => if z.length ≤ big then .ok (z.cps.toList.map fun c => .str ⟨#[c]⟩, []) (gc st st1 0) else .bad
  | .loc n => match st1[n]? with
    | some (.lst xs) => .ok (xs, if n < (gc st st1 (D.lims xs)).length then [(n, xs)] else []) (gc st st1 (D.lims xs))
    | some (.rol xs) => .ok (xs, []) st1
    | _ => .bad
  | _ => .bad
noncomputable def rng1D (d : D) (st : Store) : Res Src := match d with | .int j => if small62 j then .ok (range0 0 j.toNat, []) st else .bad | _ => .bad
noncomputable def rng2D (d e : D) (st : Store) : Res Src := match d, e with | .int i, .int j => if small62 i ∧ small62 j then .ok (range0 i (j - i).toNat, []) st else .bad | _, _ => .bad
/-- zip of two lists, of two tuples: the items, the lists that must stay -/
def seqOf (st : Store) (d : D) : Option (List D × List (Nat × List D) × Bool) :=
  match d with
  | .tup xs => some (xs, [], true)
  | .fl xs => some (xs, [], false)
  | .loc n => match st[n]? with | some (.lst xs) => some (xs, [(n, xs)], false) | _ => none
  | _ => none
def pairsD (xs ys : List D) : List D := (xs.zip ys).map fun p => .tup [p.1, p.2]
def enumD (xs : List D) : List D := xs.zipIdx.map fun p => .tup [.int (p.2 : Int), p.1]
noncomputable def zipD (st : Store) (d e : D) (st1 : Store) : Res Src :=
  match seqOf st1 d, seqOf st1 e with
  | some (xs, w, _), some (ys, w', _) => .ok (pairsD xs ys, (w ++ w')) st1
  | _, _ => .bad
noncomputable def enumDD (st : Store) (d : D) (st1 : Store) : Res Src :=
  match seqOf st1 d with
  | some (xs, w, t) => if t then .bad else .ok (enumD xs, w) st1
  | none => .bad
def isOmit : E → Bool | .omit => true | _ => false
def needI (o : Bool) (r : Res D) : Res D := if o then r else r.bind fun d st => match d with | .int i => .ok (.int i) st | _ => .bad
open Classical in
noncomputable def compL (t : Tg) (cond elt : Env → M D) (ρ0 : Env) (ws : List (Nat × List D)) : List D → Store → Res (List D)
  | [], st => if wOk ws st then .ok [] st else .bad
  | x :: r, st => if wOk ws st then (match asgTg t x ρ0 with
    | none => .bad
    | some ρ1 => (cond ρ1 st).bind fun c st1 => match truD c st1 with
      | some true => (elt ρ1 (gc st st1 0)).bind fun y st2 => (compL t cond elt ρ0 ws r st2).bind fun ys st3 => .ok (y :: ys) st3
      | some false => compL t cond elt ρ0 ws r (gc st st1 0)
      | none => .bad) else .bad
open Classical in
noncomputable def compL2 (it1 : Env → Store → Res Src) (t : Tg) (cond : Env → M D) (t1 : Tg) (cond1 elt : Env → M D) (vs1 : List Nat) (ρ0 : Env) (ws : List (Nat × List D)) : List D → Store → Res (List D)
  | [], st => if wOk ws st then .ok [] st else .bad
  | x :: r, st => if wOk ws st then (match asgTg t x ρ0 with
    | none => .bad
    | some ρ1 => (cond ρ1 st).bind fun c st1 => match truD c st1 with
      | some true => (it1 ρ1 (gc st st1 0)).bind fun p st2 => if p.1.length ≤ big then ((compL t1 cond1 elt (wipeE ρ1 vs1) p.2 p.1 st2).bind fun ys st3 => (compL2 it1 t cond t1 cond1 elt vs1 ρ0 ws r st3).bind fun zs st4 => .ok (ys ++ zs) st4) else .bad
      | some false => compL2 it1 t cond t1 cond1 elt vs1 ρ0 ws r (gc st st1 0)
      | none => .bad) else .bad
open Classical in
/-- a new list of the store becomes one that nobody changes -/
noncomputable def frzE (st : Store) (d : D) (st1 : Store) : Res D :=
  match d with
  | .loc n => if st.length ≤ n then (match st1[n]? with
    | some (.lst xs) => if D.lims xs ≤ st.length ∧ st.length ≤ st1.length ∧ Mod st (st1.take st.length) then .ok (.fl xs) (st1.take st.length) else .ok d st1
    | _ => .ok d st1) else .ok d st1
  | d => .ok d st1
/-- .. at a def's end, at any depth -/
def frzD (b : Nat) (st : Store) : Nat → D → D
  | 0, d => d
  | k + 1, .loc n => if b ≤ n then (match st[n]? with | some (.lst xs) => .fl (xs.map (frzD b st k)) | _ => .loc n) else .loc n
  | k + 1, .tup xs => .tup (xs.map (frzD b st k))
  | k + 1, .fl xs => .fl (xs.map (frzD b st k))
  | k + 1, .obj c ns xs => .obj c ns (xs.map (frzD b st k))
  | _ + 1, d => d
open Classical in
noncomputable def retF (st st1 : Store) (d : D) : Res D :=
  if D.lim (frzD st.length st1 9 d) ≤ st.length ∧ st.length ≤ st1.length ∧ Mod st (st1.take st.length) then .ok (frzD st.length st1 9 d) (st1.take st.length) else .ok d (gc st st1 d.lim)
open Classical in
/-- an instance just made, its __init__ run -/
noncomputable def newD (c : Str) (st : Store) (r : Res D) : Res D :=
  match r with
  | .ok .non st2 => match st2[st.length]? with
    | some (.ins k fl) => if k = c ∧ D.lims (fl.map (·.2)) ≤ st.length ∧ st.length ≤ st2.length ∧ Mod st (st2.take st.length) then .ok (.obj c (fl.map (·.1)) (fl.map (·.2))) (st2.take st.length) else .bad
    | _ => .bad
  | .exc e st2 => if exLim e ≤ st.length ∧ st.length ≤ st2.length ∧ Mod st (st2.take st.length) then .exc e (st2.take st.length) else .bad
  | _ => .bad
mutual
noncomputable def evE (C : Orc) (fs : List Fr) (cur : Option Ex) : E → Env → Store → Res D
  | .v i, ρ, st => match ρ[i]? with | some (some d) => .ok d st | _ => .bad
  | .con d, _, st => .ok d st
  | .glob _ d, _, st => .ok d st
  | .bin op a b, ρ, st => (evE C fs cur a ρ st).bind fun x st1 => (evE C fs cur b ρ st1).bind fun y st2 => binD op x y st2
  | .neg a, ρ, st => (evE C fs cur a ρ st).bind fun x st1 => negD x st1
  | .inv a, ρ, st => (evE C fs cur a ρ st).bind fun x st1 => invD x st1
  | .not a, ρ, st => (evE C fs cur a ρ st).bind fun x st1 => ofB ((truD x st1).map (!·)) st1
  | .cmp op a b, ρ, st => (evE C fs cur a ρ st).bind fun x st1 => (evE C fs cur b ρ st1).bind fun y st2 => ofB (cmpD op x y st2) st2
  | .chain o1 o2 a b c, ρ, st => (evE C fs cur a ρ st).bind fun x st1 => (evE C fs cur b ρ st1).bind fun y st2 => match cmpD o1 x y st2 with
    | some true => (evE C fs cur c ρ st2).bind fun z st3 => ofB (cmpD o2 y z st3) st3
    | some false => .ok (.bl false) st2
    | none => .bad
  | .and a b, ρ, st => (evE C fs cur a ρ st).bind fun x st1 => match truD x st1 with | some true => evE C fs cur b ρ st1 | some false => .ok x st1 | none => .bad
  | .or a b, ρ, st => (evE C fs cur a ρ st).bind fun x st1 => match truD x st1 with | some true => .ok x st1 | some false => evE C fs cur b ρ st1 | none => .bad
  | .ite c a b, ρ, st => (evE C fs cur c ρ st).bind fun x st1 => match truD x st1 with | some true => evE C fs cur a ρ st1 | some false => evE C fs cur b ρ st1 | none => .bad
  | .tup es, ρ, st => (evEs C fs cur es ρ st).bind fun ds st1 => if ds.length ≤ big then .ok (.tup ds) st1 else .bad
  | .lst es, ρ, st => (evEs C fs cur es ρ st).bind fun ds st1 => if ds.length ≤ big then .ok (.loc st1.length) (st1 ++ [.lst ds]) else .bad
  | .dic ps, ρ, st => (evPs C fs cur ps ρ st).bind fun kvs st1 => if kvs.length ≤ 15 then .ok (.loc st1.length) (st1 ++ [.dic (kvs.foldl (fun acc p => putK p.1 p.2 acc) [])]) else .bad
  | .idx a i, ρ, st => (evE C fs cur a ρ st).bind fun x st1 => (evE C fs cur i ρ st1).bind fun y st2 => ofD (idxD x y st2) st2
  | .sl a lo hi, ρ, st => (evE C fs cur a ρ st).bind fun x st1 => (needI (isOmit lo) (evE C fs cur lo ρ st1)).bind fun l st2 => (needI (isOmit hi) (evE C fs cur hi ρ st2)).bind fun h st3 => slD x l h st3
  | .omit, _, st => .ok .non st
  | .attr a f, ρ, st => (evE C fs cur a ρ st).bind fun x st1 => ofD (getFD x f st1) st1
  | .call f as, ρ, st => (evEs C fs cur as ρ st).bind fun ds st1 => C ((ρ, none) :: fs) f ds st1
  | .blt b as, ρ, st => (evEs C fs cur as ρ st).bind fun ds st1 => bltD b ds st1
  | .isin a ts, ρ, st => (evE C fs cur a ρ st).bind fun x st1 => ofB (isTys ts x st1) st1
  | .meth m o as, ρ, st => (evE C fs cur o ρ st).bind fun x st1 => if recvD m x st1 = true then (evEs C fs cur as ρ st1).bind fun ds st2 => methD m x ds st2 else .bad
  | .comp own t it cond elt, ρ, st => (evIt C fs cur it ρ st).bind fun p st1 => if p.1.length ≤ big then
      noExc ((compL t (fun ρ1 st => evE C fs cur cond ρ1 st) (fun ρ1 st => evE C fs cur elt ρ1 st) (wipeE ρ own) p.2 p.1 st1).bind fun ys st2 => .ok (.loc st2.length) (st2 ++ [.lst ys])) else .bad
  | .fstr ps, ρ, st => (evFs C fs cur ps Str.empty ρ st).bind fun x st1 => .ok (.str x) st1
  | .exF f, _, st => match cur with | some e => ofD (lookF f e.fs) st | none => .bad
  | .exIs cs, _, st => match cur with | some e => .ok (.bl (decide (e.cls ∈ cs))) st | none => .bad
  | .frz a, ρ, st => (evE C fs cur a ρ st).bind fun d st1 => frzE st d st1
  | .callH f b as, ρ, st => noExc ((evEs C fs cur as ρ st).bind fun ds st1 => C ((ρ, some b) :: fs) f ds st1)
  | .callv, _, st => C fs Str.empty [] st
  | .comp2 own t it cond t1 it1 cond1 elt, ρ, st => (evIt C fs cur it ρ st).bind fun p st1 => if p.1.length ≤ big then
      noExc ((compL2 (fun ρ1 st => evIt C fs cur it1 ρ1 st) t (fun ρ1 st => evE C fs cur cond ρ1 st) t1 (fun ρ1 st => evE C fs cur cond1 ρ1 st) (fun ρ1 st => evE C fs cur elt ρ1 st) (tgSlots t1) (wipeE ρ own) p.2 p.1 st1).bind fun ys st2 => if ys.length ≤ big then .ok (.loc st2.length) (st2 ++ [.lst ys]) else .bad) else .bad
  | .new c as, ρ, st => (evEs C fs cur as ρ st).bind fun ds st1 => newD c st1 (C ((ρ, none) :: fs) (c ++ ".__init__") (.loc st1.length :: ds) (st1 ++ [.ins c []]))
  | .prop a f, ρ, st => (evE C fs cur a ρ st).bind fun x st1 => match x with | .obj c _ _ => C ((ρ, none) :: fs) (c ++ "." ++ f) [x] st1 | _ => .bad
  | .mcall a m as, ρ, st => (evE C fs cur a ρ st).bind fun x st1 => (evEs C fs cur as ρ st1).bind fun ds st2 => match x with | .obj c _ _ => C ((ρ, none) :: fs) (c ++ "." ++ m) (x :: ds) st2 | _ => .bad
noncomputable def evEs (C : Orc) (fs : List Fr) (cur : Option Ex) : Es → Env → Store → Res (List D)
  | .nil, _, st => .ok [] st
  | .cons e es, ρ, st => (evE C fs cur e ρ st).bind fun d st1 => (evEs C fs cur es ρ st1).bind fun ds st2 => .ok (d :: ds) st2
noncomputable def evPs (C : Orc) (fs : List Fr) (cur : Option Ex) : Ps → Env → Store → Res (List (Sum Int Str × D))
  | .nil, _, st => .ok [] st
  | .cons k e ps, ρ, st => (evE C fs cur e ρ st).bind fun y st2 => (evPs C fs cur ps ρ st2).bind fun r st3 => .ok ((k, y) :: r) st3
  | .consE k e ps, ρ, st => (evE C fs cur k ρ st).bind fun d st1 => match keyD d with
    | some k => (evE C fs cur e ρ st1).bind fun y st2 => (evPs C fs cur ps ρ st2).bind fun r st3 => .ok ((k, y) :: r) st3
    | none => .bad
noncomputable def evFs (C : Orc) (fs : List Fr) (cur : Option Ex) : Es → Str → Env → Store → Res Str
  | .nil, acc, _, st => .ok acc st
  | .cons e es, acc, ρ, st => (evE C fs cur e ρ st).bind fun d st1 => match fmtD d with
    | some x => if acc.length + x.length ≤ big then evFs C fs cur es (acc ++ x) ρ st1 else .bad
    | none => .bad
noncomputable def evIt (C : Orc) (fs : List Fr) (cur : Option Ex) : It → Env → Store → Res Src
  | .e a, ρ, st => (evE C fs cur a ρ st).bind fun d st1 => srcOf st d st1
  | .rng1 a, ρ, st => (evE C fs cur a ρ st).bind fun x st1 => rng1D x st1
  | .rng2 a b, ρ, st => (evE C fs cur a ρ st).bind fun x st1 => (evE C fs cur b ρ st1).bind fun y st2 => rng2D x y st2
  | .zip a b, ρ, st => (evE C fs cur a ρ st).bind fun x st1 => (evE C fs cur b ρ st1).bind fun y st2 => zipD st x y st2
  | .enum a, ρ, st => (evE C fs cur a ρ st).bind fun x st1 => enumDD st x st1
end
def SRes.of {α : Type} (r : Res α) (ρ : Env) (k : α → Store → SRes) : SRes := match r with | .ok a st => k a st | .exc e st => .exc e ρ st | .bad => .bad
@[simp] theorem SRes.of_ok {α : Type} (a : α) (st : Store) (ρ : Env) (k : α → Store → SRes) : SRes.of (.ok a st) ρ k = k a st := rfl
@[simp] theorem SRes.of_exc {α : Type} (e : Ex) (st : Store) (ρ : Env) (k : α → Store → SRes) : SRes.of (.exc e st) ρ k = .exc e ρ st := rfl
@[simp] theorem SRes.of_bad {α : Type} (ρ : Env) (k : α → Store → SRes) : SRes.of .bad ρ k = .bad := rfl
/-- a test -/
noncomputable def evT (C : Orc) (fs : List Fr) (cur : Option Ex) (c : E) (ρ : Env) (st : Store) : Res Bool :=
  (evE C fs cur c ρ st).bind fun d st1 => match truD d st1 with | some k => .ok k (gc st st1 0) | none => .bad
open Classical in
noncomputable def forL (b : Env → Store → SRes) (t : Tg) (ws : List (Nat × List D)) : List D → Env → Store → SRes
  | [], ρ, st => if wOk ws st then .nxt ρ st else .bad
  | x :: r, ρ, st => if wOk ws st then (match asgTg t x ρ with
    | none => .bad
    | some ρ1 => match b ρ1 st with
      | .nxt ρ2 st2 => forL b t ws r ρ2 st2
      | .cnt ρ2 st2 => forL b t ws r ρ2 st2
      | .brk ρ2 st2 => .nxt ρ2 st2
      | .ret d st2 => .ret d st2
      | .exc e ρ2 st2 => .exc e ρ2 st2
      | .bad => .bad) else .bad
noncomputable def whlN (c : Env → Store → Res Bool) (b : Env → Store → SRes) : Nat → Env → Store → SRes
  | 0, _, _ => .bad
  | n + 1, ρ, st => SRes.of (c ρ st) ρ fun k st1 => if k then (match b ρ st1 with
      | .nxt ρ2 st2 => whlN c b n ρ2 st2
      | .cnt ρ2 st2 => whlN c b n ρ2 st2
      | .brk ρ2 st2 => .nxt ρ2 st2
      | .ret d st2 => .ret d st2
      | .exc e ρ2 st2 => .exc e ρ2 st2
      | .bad => .bad) else .nxt ρ st1
def SRes.clean (i : Nat) (r : SRes) : SRes :=
  match r with | .nxt ρ st => .nxt (ρ.set i none) st | .brk ρ st => .brk (ρ.set i none) st | .cnt ρ st => .cnt (ρ.set i none) st | r => r
def fuelW : Nat := 1000000000000
/-- one turn of a for over written lambdas: if g(it) op rhs: body -/
noncomputable def stepL (C : Orc) (fs : List Fr) (g : Str) (op : CmpOp) (r : Env → Store → Res D) (b : Env → Store → SRes) (e : E) (ρ : Env) (st : Store) : SRes :=
  SRes.of ((noExc (C ((ρ, some e) :: fs) g [] st)).bind fun d st1 => (r ρ st1).bind fun w st2 => match cmpD op d w st2 with | some k => (.ok k (gc st st2 0) : Res Bool) | none => .bad) ρ fun k st1 => if k then b ρ st1 else .nxt ρ st1
noncomputable def evLams (C : Orc) (fs : List Fr) (g : Str) (i : Nat) (op : CmpOp) (r : Env → Store → Res D) (b : Env → Store → SRes) : Es → Env → Store → SRes
  | .nil, ρ, st => .nxt ρ st
  | .cons e es, ρ, st => if ρ.length ≤ i then .bad else match stepL C fs g op r b e (ρ.set i none) st with
    | .nxt ρ2 st2 => evLams C fs g i op r b es ρ2 st2
    | .cnt ρ2 st2 => evLams C fs g i op r b es ρ2 st2
    | .brk ρ2 st2 => .nxt ρ2 st2
    | .ret d st2 => .ret d st2
    | .exc e ρ2 st2 => .exc e ρ2 st2
    | .bad => .bad
def augD (op : Operator) (a b : D) (st : Store) : Res D :=
  match op, a, b with
  | .Add, .int i, .int j => .ok (.int (i + j)) st
  | .Sub, .int i, .int j => .ok (.int (i - j)) st
  | _, _, _ => .bad
mutual
noncomputable def evS (C : Orc) (fs : List Fr) (cur : Option Ex) : S → Env → Store → SRes
  | .asg i e, ρ, st => SRes.of (evE C fs cur e ρ st) ρ fun d st1 => .nxt (ρ.set i (some d)) (gc st st1 d.lim)
  | .asgT is e, ρ, st => SRes.of (evE C fs cur e ρ st) ρ fun d st1 => match d with
    | .tup xs => (match asgN is xs ρ with | some ρ1 => .nxt ρ1 (gc st st1 (D.lims xs)) | none => .bad)
    | _ => .bad
  | .par is es, ρ, st => SRes.of (evEs C fs cur es ρ st) ρ fun ds st1 => match asgN is ds ρ with | some ρ1 => .nxt ρ1 (gc st st1 (D.lims ds)) | none => .bad
  | .set o i e, ρ, st => SRes.of (evE C fs cur e ρ st) ρ fun d st1 => SRes.of (evE C fs cur o ρ st1) ρ fun x st2 => SRes.of (evE C fs cur i ρ st2) ρ fun y st3 =>
      match setD x y d st3 with | some st4 => .nxt ρ (gc st st4 0) | none => .bad
  | .setF o f e, ρ, st => SRes.of (evE C fs cur e ρ st) ρ fun d st1 => SRes.of (evE C fs cur o ρ st1) ρ fun x st2 =>
      match setFD x f d st2 with | some st4 => .nxt ρ (gc st st4 0) | none => .bad
  | .aug i op e, ρ, st => match ρ[i]? with
    | some (some x) => SRes.of (evE C fs cur e ρ st) ρ fun d st1 => SRes.of (augD op x d st1) ρ fun y st2 => .nxt (ρ.set i (some y)) (gc st st2 y.lim)
    | _ => .bad
  | .expr e, ρ, st => SRes.of (evE C fs cur e ρ st) ρ fun _ st1 => .nxt ρ (gc st st1 0)
  | .ret e, ρ, st => SRes.of (evE C fs cur e ρ st) ρ fun d st1 => .ret d st1
  | .retN, _, st => .ret .non st
  | .ife c a b, ρ, st => SRes.of (evT C fs cur c ρ st) ρ fun k st1 => if k then evSs C fs cur a ρ st1 else evSs C fs cur b ρ st1
  | .for t it body, ρ, st => SRes.of (evIt C fs cur it ρ st) ρ fun p st1 => forL (fun ρ st => evSs C fs cur body ρ st) t p.2 p.1 ρ st1
  | .whl c body, ρ, st => whlN (fun ρ st => evT C fs cur c ρ st) (fun ρ st => evSs C fs cur body ρ st) fuelW ρ st
  | .brk, ρ, st => .brk ρ st
  | .cnt, ρ, st => .cnt ρ st
  | .pass, ρ, st => .nxt ρ st
  | .raise c fl as, ρ, st => SRes.of (evEs C fs cur as ρ st) ρ fun ds st1 => if ds.length = fl.length then .exc ⟨c, (fl.zip ds).reverse⟩ ρ (gc st st1 (D.lims ds)) else .bad
  | .try body hs, ρ, st => match evSs C fs cur body ρ st with
    | .exc e ρ1 st1 => evHs C fs hs e ρ1 st1
    | r => r
  | .forS i g es op rhs body, ρ, st => evLams C fs g i op (fun ρ st => evE C fs cur rhs ρ st) (fun ρ st => evSs C fs cur body ρ st) es ρ st
noncomputable def evSs (C : Orc) (fs : List Fr) (cur : Option Ex) : Ss → Env → Store → SRes
  | .nil, ρ, st => .nxt ρ st
  | .cons s ss, ρ, st => match evS C fs cur s ρ st with
    | .nxt ρ1 st1 => evSs C fs cur ss ρ1 st1
    | r => r
noncomputable def evHs (C : Orc) (fs : List Fr) : Hs → Ex → Env → Store → SRes
  | .nil, e, ρ, st => .exc e ρ st
  | .cons cs slot suite rest, e, ρ, st =>
    if e.cls ∈ cs then (match slot with
      | some i => if i < ρ.length then (match evSs C fs (some e) suite (ρ.set i none) st with
        | .exc _ _ _ => .bad
        | r => SRes.clean i r) else .bad
      | none => (match evSs C fs none suite ρ st with
        | .exc _ _ _ => .bad
        | r => r)) else evHs C fs rest e ρ st
end
/-- the names at a def's start: hi, a def whose first parameter is the lambda -/
def startE (f : Fn) (ds : List D) : Env := (if f.hi then none :: ds.map some else ds.map some) ++ List.replicate (f.slots - f.arity) none
/-- a def's run -/
noncomputable def runFn (C : Orc) (fs : List Fr) (f : Fn) (ds : List D) (st : Store) : Res D :=
  if (if f.hi then ds.length + 1 else ds.length) = f.arity then (match evSs C fs none f.body (startE f ds) st with
    | .ret d st1 => retF st st1 d
    | .nxt _ st1 => .ok .non (gc st st1 0)
    | .exc e _ st1 => .exc e (gc st st1 (exLim e))
    | _ => .bad) else .bad
def progOf (l : List (Str × Fn)) (x : Str) : Option Fn := (l.find? fun q => decide (q.1 = x)).map (·.2)
/-- the lambda that the caller has handed -/
noncomputable def runLam (C : Orc) (fs : List Fr) (st : Store) : Res D :=
  match fs with
  | (ρ, some b) :: fc => (match evE C fc none b ρ st with
    | .ok d st1 => .ok d (gc st st1 d.lim)
    | .exc e st1 => .exc e (gc st st1 (exLim e))
    | .bad => .bad)
  | _ => .bad
/-- calls to a depth -/
noncomputable def callN (prog : Str → Option Fn) : Nat → Orc
  | 0 => fun _ _ _ _ => .bad
  | k + 1 => fun fs f ds st => if f = Str.empty then runLam (callN prog k) fs st else match prog f with | some fn => runFn (callN prog k) fs fn ds st | none => .bad
end MM
end

section
set_option Elab.async false
set_option linter.all false
set_option maxRecDepth 100000
set_option maxHeartbeats 2000000
/-! MMRel: how the evaluator's values and store lie in the hand layer's heap. -/
namespace MM
open PySem L2 PyProof.Rows

/-- the written part, its classes -/
structure Kl where
  K : PySem.W.Frag
  cls : Str → Option Addr
/-- what the whole proof stands over -/
structure Gam where
  P : Program
  w : World
  k : Kl
  mg : PySem.Str → Option Value
  base : Heap
  T : List (Addr × Str)

mutual
/-- the value v is the data d -/
inductive Rep (K : Kl) (W : List Addr) (H : Hp) : D → V → Prop where
  | non : Rep K W H .non .non
  | bl (b : Bool) : Rep K W H (.bl b) (.bl b)
  | int (i : Int) : Rep K W H (.int i) (.int i)
  | str (x : Str) : Rep K W H (.str x) (.str x)
  | tup {a : Addr} {vs : List V} {xs : List D} : SqT K.K H a vs → Reps K W H xs vs → Rep K W H (.tup xs) (.ref a)
  | fl {a : Addr} {o : Obj} {vs : List V} {xs : List D} : H a = some (.frz o (.lst vs)) → Reps K W H xs vs → Rep K W H (.fl xs) (.ref a)
  | obj {a C dx : Addr} {c : Str} {gs : List (Str × V)} {xs : List D} : H a = some (.ins C dx gs) → a ∉ W → K.cls c = some C → Reps K W H xs (gs.map (·.2)) → Rep K W H (.obj c (gs.map (·.1)) xs) (.ref a)
  | loc {n : Nat} {a : Addr} : W[n]? = some a → Rep K W H (.loc n) (.ref a)
inductive Reps (K : Kl) (W : List Addr) (H : Hp) : List D → List V → Prop where
  | nil : Reps K W H [] []
  | cons {x : D} {v : V} {xs : List D} {vs : List V} : Rep K W H x v → Reps K W H xs vs → Reps K W H (x :: xs) (v :: vs)
end
/-- what never changes -/
def fixO : HO → Bool
  | .tup _ => true | .frz _ _ => true | .xd _ => true | .ext _ => true | _ => false
/-- what may be written while it is off the store: lists and dicts under way -/
def offO : HO → Bool
  | .lst _ => true | .dK _ => true | .dT _ => true | _ => false
/-- what is written: these, and instances -/
def mutO : HO → Bool
  | .lst _ => true | .dK _ => true | .dT _ => true | .ins _ _ _ => true | _ => false
theorem offO_fix {u : HO} (h : offO u = true) : fixO u = false := by cases u <;> first | rfl | (cases h)
theorem offO_mut {u : HO} (h : offO u = true) : mutO u = true := by cases u <;> first | rfl | (cases h)
theorem mutO_fix {u : HO} (h : mutO u = true) : fixO u = false := by cases u <;> first | rfl | (cases h)
theorem mutO_tbl {u : HO} (h : mutO u = true) : ∀ ps, u ≠ .tbl ps := fun ps z => by subst z; cases h
/-- how the heap grows and changes -/
structure Ext (W : List Addr) (H : Hp) (W' : List Addr) (H' : Hp) : Prop where
  pre : W <+: W'
  fresh : ∀ a ∈ W', a ∈ W ∨ ∀ o, H a = some o → ∃ ps, o = .tbl ps
  keep : ∀ a o, H a = some o → a ∉ W → (∀ ps, o ≠ .tbl ps) → H' a = some o
  fix : ∀ a o, H a = some o → fixO o = true → H' a = some o
theorem Ext.tups {W W' : List Addr} {H H' : Hp} (x : Ext W H W' H') (a : Addr) (xs : List V) (h : H a = some (.tup xs)) : H' a = some (.tup xs) := x.fix a _ h rfl
theorem Ext.frzs {W W' : List Addr} {H H' : Hp} (x : Ext W H W' H') (a : Addr) (o : Obj) (u : HO) (h : H a = some (.frz o u)) : H' a = some (.frz o u) := x.fix a _ h rfl
theorem Ext.refl {W : List Addr} {H : Hp} : Ext W H W H := ⟨List.prefix_refl _, fun _ h => .inl h, fun _ _ h _ _ => h, fun _ _ h _ => h⟩
theorem Ext.trans {W W1 W2 : List Addr} {H H1 H2 : Hp} (x : Ext W H W1 H1) (y : Ext W1 H1 W2 H2) : Ext W H W2 H2 where
  pre := x.pre.trans y.pre
  fresh := fun a ha => by
    rcases y.fresh a ha with h | h
    · exact x.fresh a h
    · by_cases hw : a ∈ W
      · exact .inl hw
      · refine .inr fun o e => ?_
        by_cases ht : ∃ ps, o = .tbl ps
        · exact ht
        · exact h o (x.keep a o e hw fun ps z => ht ⟨ps, z⟩)
  keep := fun a o e hw hn => by
    refine y.keep a o (x.keep a o e hw hn) (fun hm => ?_) hn
    rcases x.fresh a hm with h | h
    · exact hw h
    · obtain ⟨ps, z⟩ := h o e
      exact hn ps z
  fix := fun a o e f => y.fix a o (x.fix a o e f) f
theorem Ext.get {W W' : List Addr} {H H' : Hp} (x : Ext W H W' H') {n : Nat} {a : Addr} (h : W[n]? = some a) : W'[n]? = some a := by
  obtain ⟨t, rfl⟩ := x.pre
  rw [List.getElem?_append_left (List.getElem?_eq_some_iff.mp h).1]
  exact h
theorem Ext.sqT {K : Kl} {W W' : List Addr} {H H' : Hp} (x : Ext W H W' H') {a : Addr} {vs : List V} (h : SqT K.K H a vs) : SqT K.K H' a vs := by
  rcases h with (h | ⟨o, h⟩) | h
  · exact .inl (.inl (x.tups a vs h))
  · exact .inl (.inr ⟨o, x.frzs a o _ h⟩)
  · exact .inr h
/-- what readings need -/
structure Mor (K : Kl) (W : List Addr) (H : Hp) (W' : List Addr) (H' : Hp) : Prop where
  get : ∀ {n : Nat} {a : Addr}, W[n]? = some a → W'[n]? = some a
  sqT : ∀ {a : Addr} {vs : List V}, SqT K.K H a vs → SqT K.K H' a vs
  frz : ∀ {a : Addr} {o : Obj} {u : HO}, H a = some (.frz o u) → H' a = some (.frz o u)
  ins : ∀ {a C dx : Addr} {gs : List (Str × V)}, H a = some (.ins C dx gs) → a ∉ W → H' a = some (.ins C dx gs) ∧ a ∉ W'
mutual
theorem Rep.mor {K : Kl} {W W' : List Addr} {H H' : Hp} (x : Mor K W H W' H') : ∀ {d : D} {v : V}, Rep K W H d v → Rep K W' H' d v
  | _, _, .non => .non
  | _, _, .bl b => .bl b
  | _, _, .int i => .int i
  | _, _, .str s => .str s
  | _, _, .tup h r => .tup (x.sqT h) (Reps.mor x r)
  | _, _, .fl h r => .fl (x.frz h) (Reps.mor x r)
  | _, _, .obj h n c r => .obj (x.ins h n).1 (x.ins h n).2 c (Reps.mor x r)
  | _, _, .loc h => .loc (x.get h)
theorem Reps.mor {K : Kl} {W W' : List Addr} {H H' : Hp} (x : Mor K W H W' H') : ∀ {ds : List D} {vs : List V}, Reps K W H ds vs → Reps K W' H' ds vs
  | _, _, .nil => .nil
  | _, _, .cons h r => .cons (Rep.mor x h) (Reps.mor x r)
end
theorem Ext.out {W W' : List Addr} {H H' : Hp} (x : Ext W H W' H') {a : Addr} {o : HO} (h : H a = some o) (hn : ∀ ps, o ≠ .tbl ps) (n : a ∉ W) : a ∉ W' := fun hm => by
  rcases x.fresh a hm with z | z
  · exact n z
  · obtain ⟨ps, e⟩ := z o h
    exact hn ps e
theorem Ext.mor {K : Kl} {W W' : List Addr} {H H' : Hp} (x : Ext W H W' H') : Mor K W H W' H' := ⟨x.get, x.sqT, fun h => x.frzs _ _ _ h, fun h n => ⟨x.keep _ _ h n (fun _ z => by cases z), x.out h (fun _ z => by cases z) n⟩⟩
theorem Rep.ext {K : Kl} {W W' : List Addr} {H H' : Hp} (x : Ext W H W' H') {d : D} {v : V} (r : Rep K W H d v) : Rep K W' H' d v := r.mor x.mor
theorem Reps.ext {K : Kl} {W W' : List Addr} {H H' : Hp} (x : Ext W H W' H') {ds : List D} {vs : List V} (r : Reps K W H ds vs) : Reps K W' H' ds vs := r.mor x.mor
section
variable {K : Kl} {W : List Addr} {H : Hp}
theorem Reps.length : ∀ {ds : List D} {vs : List V}, Reps K W H ds vs → ds.length = vs.length
  | _, _, .nil => rfl
  | _, _, .cons _ r => by rw [List.length_cons, List.length_cons, Reps.length r]
theorem Reps.get : ∀ {ds : List D} {vs : List V} {i : Nat} {d : D}, Reps K W H ds vs → ds[i]? = some d → ∃ v, vs[i]? = some v ∧ Rep K W H d v
  | _, _, _, _, .nil, e => by simp at e
  | _, _, 0, _, .cons h _, e => by simp at e; subst e; exact ⟨_, rfl, h⟩
  | _, _, i + 1, d, .cons _ r, e => by
    obtain ⟨v, h1, h2⟩ := Reps.get (i := i) (d := d) r (by simpa using e)
    exact ⟨v, by simpa using h1, h2⟩
theorem Reps.get' : ∀ {ds : List D} {vs : List V} {i : Nat} {v : V}, Reps K W H ds vs → vs[i]? = some v → ∃ d, ds[i]? = some d ∧ Rep K W H d v
  | _, _, _, _, .nil, e => by simp at e
  | _, _, 0, _, .cons h _, e => by simp at e; subst e; exact ⟨_, rfl, h⟩
  | _, _, i + 1, v, .cons _ r, e => by
    obtain ⟨d, h1, h2⟩ := Reps.get' (i := i) (v := v) r (by simpa using e)
    exact ⟨d, by simpa using h1, h2⟩
theorem Reps.append : ∀ {ds es : List D} {vs ws : List V}, Reps K W H ds vs → Reps K W H es ws → Reps K W H (ds ++ es) (vs ++ ws)
  | _, _, _, _, .nil, s => s
  | _, _, _, _, .cons h r, s => .cons h (Reps.append r s)
theorem Reps.take : ∀ {ds : List D} {vs : List V} (n : Nat), Reps K W H ds vs → Reps K W H (ds.take n) (vs.take n)
  | _, _, 0, _ => by simpa using .nil
  | _, _, _ + 1, .nil => .nil
  | _, _, n + 1, .cons h r => .cons h (Reps.take n r)
theorem Reps.drop : ∀ {ds : List D} {vs : List V} (n : Nat), Reps K W H ds vs → Reps K W H (ds.drop n) (vs.drop n)
  | _, _, 0, r => r
  | _, _, _ + 1, .nil => .nil
  | _, _, n + 1, .cons _ r => Reps.drop n r
theorem Reps.set {d : D} {v : V} (h : Rep K W H d v) : ∀ {ds : List D} {vs : List V} (i : Nat), Reps K W H ds vs → Reps K W H (ds.set i d) (vs.set i v)
  | _, _, _, .nil => .nil
  | _, _, 0, .cons _ t => .cons h t
  | _, _, i + 1, .cons q t => .cons q (Reps.set h i t)
theorem Reps.eraseIdx : ∀ {ds : List D} {vs : List V} (i : Nat), Reps K W H ds vs → Reps K W H (ds.eraseIdx i) (vs.eraseIdx i)
  | _, _, _, .nil => .nil
  | _, _, 0, .cons _ t => t
  | _, _, i + 1, .cons q t => .cons q (Reps.eraseIdx i t)
theorem Reps.dropLast : ∀ {ds : List D} {vs : List V}, Reps K W H ds vs → Reps K W H ds.dropLast vs.dropLast
  | _, _, .nil => .nil
  | _, _, .cons _ .nil => .nil
  | _, _, .cons h (.cons h' t) => .cons h (Reps.dropLast (.cons h' t))
theorem Reps.flat : ∀ (n : Nat) {ds : List D} {vs : List V}, Reps K W H ds vs → Reps K W H (List.replicate n ds).flatten (List.replicate n vs).flatten
  | 0, _, _, _ => .nil
  | n + 1, _, _, r => by
    rw [List.replicate_succ, List.replicate_succ, List.flatten_cons, List.flatten_cons]
    exact r.append (Reps.flat n r)
theorem Reps.isEmpty {ds : List D} {vs : List V} (r : Reps K W H ds vs) : ds.isEmpty = vs.isEmpty := by cases r <;> rfl
mutual
theorem Rep.lim_le : ∀ {d : D} {v : V}, Rep K W H d v → d.lim ≤ W.length
  | _, _, .non => by simp [D.lim]
  | _, _, .bl b => by simp [D.lim]
  | _, _, .int i => by simp [D.lim]
  | _, _, .str s => by simp [D.lim]
  | _, _, .tup _ r => by simp only [D.lim]; exact Reps.lims_le r
  | _, _, .fl _ r => by simp only [D.lim]; exact Reps.lims_le r
  | _, _, .obj _ _ _ r => by simp only [D.lim]; exact Reps.lims_le r
  | _, _, .loc h => by simp only [D.lim]; exact (List.getElem?_eq_some_iff.mp h).1
theorem Reps.lims_le : ∀ {ds : List D} {vs : List V}, Reps K W H ds vs → D.lims ds ≤ W.length
  | _, _, .nil => by simp [D.lims]
  | _, _, .cons h r => by simp only [D.lims]; exact Nat.max_le.mpr ⟨Rep.lim_le h, Reps.lims_le r⟩
end
mutual
theorem Rep.cut {n : Nat} : ∀ {d : D} {v : V}, Rep K W H d v → d.lim ≤ n → Rep K (W.take n) H d v
  | _, _, .non, _ => .non
  | _, _, .bl b, _ => .bl b
  | _, _, .int i, _ => .int i
  | _, _, .str s, _ => .str s
  | _, _, .tup h r, hl => .tup h (Reps.cut r (by simpa only [D.lim] using hl))
  | _, _, .fl h r, hl => .fl h (Reps.cut r (by simpa only [D.lim] using hl))
  | _, _, .obj h n c r, hl => .obj h (fun z => n (List.mem_of_mem_take z)) c (Reps.cut r (by simpa only [D.lim] using hl))
  | _, _, .loc h, hl => .loc (by simp only [D.lim] at hl; rw [List.getElem?_take_of_lt hl]; exact h)
theorem Reps.cut {n : Nat} : ∀ {ds : List D} {vs : List V}, Reps K W H ds vs → D.lims ds ≤ n → Reps K (W.take n) H ds vs
  | _, _, .nil, _ => .nil
  | _, _, .cons h r, hl => by
    simp only [D.lims] at hl
    exact .cons (Rep.cut h (Nat.le_trans (Nat.le_max_left _ _) hl)) (Reps.cut r (Nat.le_trans (Nat.le_max_right _ _) hl))
end
end
/-! ### the store -/
def wr : Cell → Bool
  | .lst _ => true | .dic _ => true | .ins _ _ => true | .rol _ => false
def DicR (K : Kl) (W : List Addr) (H : Hp) (kvs : List (D × D)) (ks : List (Key × V)) : Prop := Paired (fun (p : D × D) (q : Key × V) => keyD p.1 = some q.1 ∧ Rep K W H p.2 q.2) kvs ks
def FldR (K : Kl) (W : List Addr) (H : Hp) (fs : List (Str × D)) (gs : List (Str × V)) : Prop := Paired (fun (p : Str × D) (q : Str × V) => p.1 = q.1 ∧ Rep K W H p.2 q.2) fs gs
def CellOk (G : Gam) (W : List Addr) (H : Hp) (a : Addr) : Cell → Prop
  | .lst xs => ∃ vs, H a = some (.lst vs) ∧ Reps G.k W H xs vs
  | .rol xs => ∃ vs, (∃ o, H a = some (.frz o (.lst vs))) ∧ Reps G.k W H xs vs
  | .dic kvs => ∃ ks, H a = some (.dK ks) ∧ DicR G.k W H kvs ks
  | .ins c fs => ∃ C dx gs, G.k.cls c = some C ∧ H a = some (.ins C dx gs) ∧ FldR G.k W H fs gs
structure StOk (G : Gam) (W : List Addr) (st : Store) (H : Hp) : Prop where
  tab : LamX.Tabs G.T H
  len : W.length = st.length
  inj : ∀ (n m : Nat) (a : Addr) (c c' : Cell), W[n]? = some a → W[m]? = some a → st[n]? = some c → st[m]? = some c' → wr c = true → wr c' = true → n = m
  cell : ∀ (n : Nat) (c : Cell) (a : Addr), st[n]? = some c → W[n]? = some a → CellOk G W H a c
def EnvOk (K : Kl) (W : List Addr) (H : Hp) (ρ : Env) (σ : L2.St) : Prop :=
  ρ.length = σ.length ∧ ∀ (i : Nat) (d : D), ρ[i]? = some (some d) → ∃ v, σ[i]? = some (some v) ∧ Rep K W H d v
theorem EnvOk.ext {K : Kl} {W W' : List Addr} {H H' : Hp} {ρ : Env} {σ : L2.St} (e : EnvOk K W H ρ σ) (x : Ext W H W' H') : EnvOk K W' H' ρ σ :=
  ⟨e.1, fun i d h => let ⟨v, h1, h2⟩ := e.2 i d h; ⟨v, h1, h2.ext x⟩⟩
theorem EnvOk.set {K : Kl} {W : List Addr} {H : Hp} {ρ : Env} {σ : L2.St} {i : Nat} {d : D} {v : V} (e : EnvOk K W H ρ σ) (r : Rep K W H d v) : EnvOk K W H (ρ.set i (some d)) (σ.set i (some v)) := by
  refine ⟨by simpa using e.1, fun j d' h => ?_⟩
  by_cases hj : i = j
  · subst hj
    rw [List.getElem?_set] at h
    simp only [if_true] at h
    split at h
    · rename_i hi
      cases h
      exact ⟨v, by rw [List.getElem?_set_self (by rw [← e.1]; exact hi)], r⟩
    · cases h
  · rw [List.getElem?_set_ne hj] at h ⊢
    exact e.2 j d' h
theorem EnvOk.forget {K : Kl} {W : List Addr} {H : Hp} {ρ : Env} {σ : L2.St} {i : Nat} (e : EnvOk K W H ρ σ) : EnvOk K W H (ρ.set i none) (σ.set i none) := by
  refine ⟨by simpa using e.1, fun j d' h => ?_⟩
  by_cases hj : i = j
  · subst hj
    rw [List.getElem?_set] at h
    simp only [if_true] at h
    split at h <;> cases h
  · rw [List.getElem?_set_ne hj] at h ⊢
    exact e.2 j d' h
theorem EnvOk.wipe {K : Kl} {W : List Addr} {H : Hp} {ρ : Env} {σ : L2.St} (e : EnvOk K W H ρ σ) : ∀ is : List Nat, EnvOk K W H (wipeE ρ is) (L2.wipe σ is)
  | [] => e
  | _ :: is => (EnvOk.wipe e is).forget
section
variable {G : Gam} {W W' : List Addr} {H H' : Hp} {st : Store}
theorem DicR.imp {W' : List Addr} {H' : Hp} {K : Kl} {kvs : List (D × D)} {ks : List (Key × V)} (h : DicR K W H kvs ks) (f : ∀ d v, Rep K W H d v → Rep K W' H' d v) : DicR K W' H' kvs ks := Paired.mapP h fun _ _ q => ⟨q.1, f _ _ q.2⟩
theorem FldR.imp {W' : List Addr} {H' : Hp} {K : Kl} {kvs : List (Str × D)} {ks : List (Str × V)} (h : FldR K W H kvs ks) (f : ∀ d v, Rep K W H d v → Rep K W' H' d v) : FldR K W' H' kvs ks := Paired.mapP h fun _ _ q => ⟨q.1, f _ _ q.2⟩
/-- the tables stand where what is written is none of them -/
theorem tabs_upd {T : List (Addr × Str)} {a : Addr} {o : HO} (t : LamX.Tabs T H) (h : ∀ u, H a = some u → mutO u = true) : LamX.Tabs T (upd H a o) := by
  intro p hp
  obtain ⟨ps, h1, h2, h3⟩ := t p hp
  refine ⟨ps, by rw [upd_ne fun z => mutO_tbl (h _ (by rw [← z]; exact h1)) ps rfl]; exact h1, h2, fun pos cv hc => ?_⟩
  obtain ⟨c, e1, e2⟩ := h3 pos cv hc
  exact ⟨c, e1, by rw [upd_ne fun z => by have := mutO_fix (h _ (by rw [← z]; exact e2)); cases this]; exact e2⟩
/-- a cell's object stays, its contents' reading changes -/
theorem CellOk.imp {a : Addr} {c : Cell} (h : CellOk G W H a c) (he : wr c = true → H' a = H a) (hf : ∀ o u, H a = some (.frz o u) → H' a = some (.frz o u)) (f : ∀ ds vs, Reps G.k W H ds vs → Reps G.k W' H' ds vs) (g : ∀ d v, Rep G.k W H d v → Rep G.k W' H' d v) : CellOk G W' H' a c := by
  cases c with
  | lst xs => obtain ⟨vs, h1, h2⟩ := h; exact ⟨vs, (he rfl).trans h1, f _ _ h2⟩
  | rol xs =>
    obtain ⟨vs, h1, h2⟩ := h
    obtain ⟨o, h1⟩ := h1
    exact ⟨vs, ⟨o, hf _ _ h1⟩, f _ _ h2⟩
  | dic kvs => obtain ⟨ks, h1, h2⟩ := h; exact ⟨ks, (he rfl).trans h1, h2.imp g⟩
  | ins c fs => obtain ⟨C, dx, gs, h0, h1, h2⟩ := h; exact ⟨C, dx, gs, h0, (he rfl).trans h1, h2.imp g⟩
theorem CellOk.lim_le {a : Addr} {c : Cell} (h : CellOk G W H a c) : Cell.lim c ≤ W.length := by
  cases c with
  | lst xs => obtain ⟨vs, h1, h2⟩ := h; exact h2.lims_le
  | rol xs => obtain ⟨vs, h1, h2⟩ := h; exact h2.lims_le
  | dic kvs =>
    obtain ⟨ks, h1, h2⟩ := h
    have key : ∀ {kvs : List (D × D)} {ks : List (Key × V)}, DicR G.k W H kvs ks → D.lims (kvs.map (·.1)) = 0 ∧ D.lims (kvs.map (·.2)) ≤ W.length := by
      intro kvs ks h
      induction h with
      | nil => exact ⟨by simp [D.lims], by simp [D.lims]⟩
      | cons q _ ih =>
        refine ⟨?_, ?_⟩
        · rw [List.map_cons]
          simp only [D.lims]
          have := q.1
          rename_i a b l1 l2 _
          cases ha : a.1 <;> rw [ha] at this <;> simp [keyD] at this <;> simp [D.lim, ih.1]
        · rw [List.map_cons]
          simp only [D.lims]
          exact Nat.max_le.mpr ⟨q.2.lim_le, ih.2⟩
    have := key h2
    simp only [Cell.lim]
    rw [this.1]
    exact Nat.max_le.mpr ⟨Nat.zero_le _, this.2⟩
  | ins c fs =>
    obtain ⟨C, dx, gs, h0, h1, h2⟩ := h
    have key : ∀ {fs : List (Str × D)} {gs : List (Str × V)}, FldR G.k W H fs gs → D.lims (fs.map (·.2)) ≤ W.length := by
      intro fs gs h
      induction h with
      | nil => simp [D.lims]
      | cons q _ ih =>
        rw [List.map_cons]
        simp only [D.lims]
        exact Nat.max_le.mpr ⟨q.2.lim_le, ih⟩
    exact key h2
theorem DicR.cut {n : Nat} {K : Kl} {kvs : List (D × D)} {ks : List (Key × V)} (h : DicR K W H kvs ks) (hl : D.lims (kvs.map (·.2)) ≤ n) : DicR K (W.take n) H kvs ks := by
  induction h with
  | nil => exact .nil
  | cons q _ ih =>
    rw [List.map_cons] at hl
    simp only [D.lims] at hl
    exact .cons ⟨q.1, q.2.cut (Nat.le_trans (Nat.le_max_left _ _) hl)⟩ (ih (Nat.le_trans (Nat.le_max_right _ _) hl))
theorem FldR.cut {n : Nat} {K : Kl} {kvs : List (Str × D)} {ks : List (Str × V)} (h : FldR K W H kvs ks) (hl : D.lims (kvs.map (·.2)) ≤ n) : FldR K (W.take n) H kvs ks := by
  induction h with
  | nil => exact .nil
  | cons q _ ih =>
    rw [List.map_cons] at hl
    simp only [D.lims] at hl
    exact .cons ⟨q.1, q.2.cut (Nat.le_trans (Nat.le_max_left _ _) hl)⟩ (ih (Nat.le_trans (Nat.le_max_right _ _) hl))
theorem CellOk.cut {n : Nat} {a : Addr} {c : Cell} (h : CellOk G W H a c) (hl : Cell.lim c ≤ n) : CellOk G (W.take n) H a c := by
  cases c with
  | lst xs => obtain ⟨vs, h1, h2⟩ := h; exact ⟨vs, h1, h2.cut hl⟩
  | rol xs => obtain ⟨vs, h1, h2⟩ := h; exact ⟨vs, h1, h2.cut hl⟩
  | dic kvs => obtain ⟨ks, h1, h2⟩ := h; exact ⟨ks, h1, h2.cut (Nat.le_trans (Nat.le_max_right _ _) hl)⟩
  | ins c fs => obtain ⟨C, dx, gs, h0, h1, h2⟩ := h; exact ⟨C, dx, gs, h0, h1, h2.cut hl⟩
theorem StOk.get (s : StOk G W st H) {n : Nat} {c : Cell} (h : st[n]? = some c) : ∃ a, W[n]? = some a ∧ CellOk G W H a c := by
  have hn : n < W.length := by rw [s.len]; exact (List.getElem?_eq_some_iff.mp h).1
  exact ⟨W[n], List.getElem?_eq_getElem hn, s.cell n c _ h (List.getElem?_eq_getElem hn)⟩
theorem StOk.at (s : StOk G W st H) {n : Nat} {c : Cell} {a : Addr} (h : st[n]? = some c) (ha : W[n]? = some a) : CellOk G W H a c := s.cell n c a h ha
theorem CellOk.there {a : Addr} {c : Cell} (h : CellOk G W H a c) : H a ≠ none := by
  cases c with
  | lst xs => obtain ⟨vs, h1, h2⟩ := h; rw [h1]; exact fun z => nomatch z
  | dic kvs => obtain ⟨ks, h1, h2⟩ := h; rw [h1]; exact fun z => nomatch z
  | ins c fs => obtain ⟨C, dx, gs, h0, h1, h2⟩ := h; rw [h1]; exact fun z => nomatch z
  | rol xs => obtain ⟨vs, ⟨o, h1⟩, h2⟩ := h; rw [h1]; exact fun z => nomatch z
theorem StOk.fresh (s : StOk G W st H) {p : Addr} (hp : H p = none) : p ∉ W := fun hm => by
  obtain ⟨n, hn⟩ := List.mem_iff_getElem?.mp hm
  have hlt : n < st.length := by rw [← s.len]; exact (List.getElem?_eq_some_iff.mp hn).1
  exact (s.cell n _ p (List.getElem?_eq_getElem hlt) hn).there hp
/-- what is written at a cell's place stands in H -/
theorem CellOk.some {a : Addr} {c : Cell} (h : CellOk G W H a c) (hw : wr c = true) : ∃ o, H a = some o ∧ mutO o = true := by
  cases c with
  | lst xs => obtain ⟨vs, h1, h2⟩ := h; exact ⟨_, h1, rfl⟩
  | dic kvs => obtain ⟨ks, h1, h2⟩ := h; exact ⟨_, h1, rfl⟩
  | ins c fs => obtain ⟨C, dx, gs, h0, h1, h2⟩ := h; exact ⟨_, h1, rfl⟩
  | rol xs => cases hw
/-- the heap has got new things, or the same: all cells stand -/
theorem StOk.mono (s : StOk G W st H) (he : ∀ a o, H a = some o → H' a = some o) (x : Ext W H W H') : StOk G W st H' := by
  refine ⟨s.tab.ext he, s.len, s.inj, fun n c a h1 h2 => (s.cell n c a h1 h2).imp (fun hw => ?_) (fun o u h => he _ _ h) (fun _ _ r => r.ext x) fun _ _ r => r.ext x⟩
  obtain ⟨o, ho, _⟩ := (s.cell n c a h1 h2).some hw
  rw [ho]; exact he _ _ ho
/-- a new thing that is no cell -/
theorem Ext.new {p : Addr} {o : HO} (hp : H p = none) : Ext W H W (upd H p o) :=
  ⟨List.prefix_refl _, fun _ h => .inl h, fun a u h _ _ => by rw [upd_ne (ne_of_none h hp)]; exact h, fun a xs h _ => by rw [upd_ne (ne_of_none h hp)]; exact h⟩
theorem StOk.new {p : Addr} {o : HO} (s : StOk G W st H) (hp : H p = none) : StOk G W st (upd H p o) :=
  s.mono (fun a u h => by rw [upd_ne (ne_of_none h hp)]; exact h) (Ext.new hp)
/-- a new cell -/
theorem Ext.push {p : Addr} {o : HO} (hp : H p = none) : Ext W H (W ++ [p]) (upd H p o) :=
  ⟨List.prefix_append _ _, fun a h => by
    rcases List.mem_append.mp h with h | h
    · exact .inl h
    · rw [List.mem_singleton] at h; subst h; exact .inr (fun o e => by rw [hp] at e; cases e), (Ext.new (W := W) hp).keep, (Ext.new (W := W) hp).fix⟩
theorem push_at {α : Type} (W : List α) (p : α) : (W ++ [p])[W.length]? = some p := by simp
theorem push_get {α : Type} {W : List α} {p x : α} {n : Nat} (h : (W ++ [p])[n]? = some x) : W[n]? = some x ∨ (n = W.length ∧ x = p) := by
  by_cases hn : n < W.length
  · rw [List.getElem?_append_left hn] at h; exact .inl h
  · rw [List.getElem?_append_right (by omega)] at h
    have hz : n - W.length = 0 := by
      cases e : n - W.length with
      | zero => rfl
      | succ k => rw [e] at h; simp at h
    rw [hz] at h
    simp at h
    exact .inr ⟨by omega, h.symm⟩
theorem StOk.push {p : Addr} {o : HO} {c : Cell} (s : StOk G W st H) (hp : H p = none) (hc : CellOk G (W ++ [p]) (upd H p o) p c) : StOk G (W ++ [p]) (st ++ [c]) (upd H p o) := by
  have x : Ext W H (W ++ [p]) (upd H p o) := Ext.push hp
  refine ⟨tabs_upd s.tab (fun u hu => by rw [hp] at hu; cases hu), by simp [s.len], fun n m a c1 c2 h1 h2 h3 h4 w1 w2 => ?_, fun n c' a h1 h2 => ?_⟩
  · have nof : ∀ {k : Nat} {ck : Cell}, W[k]? = some p → st[k]? = some ck → wr ck = true → False := fun hk hck hw => by
      obtain ⟨o', ho, _⟩ := (s.cell _ _ _ hck hk).some hw
      rw [hp] at ho; cases ho
    rcases push_get h1 with g1 | ⟨e1, e1'⟩ <;> rcases push_get h2 with g2 | ⟨e2, e2'⟩
    · rcases push_get h3 with g3 | ⟨e3, _⟩
      · rcases push_get h4 with g4 | ⟨e4, _⟩
        · exact s.inj n m a c1 c2 g1 g2 g3 g4 w1 w2
        · exact absurd (List.getElem?_eq_some_iff.mp g2).1 (by rw [e4, ← s.len]; omega)
      · exact absurd (List.getElem?_eq_some_iff.mp g1).1 (by rw [e3, ← s.len]; omega)
    · rcases push_get h3 with g3 | ⟨e3, _⟩
      · exact (nof (by rw [← e2']; exact g1) g3 w1).elim
      · exact absurd (List.getElem?_eq_some_iff.mp g1).1 (by rw [e3, ← s.len]; omega)
    · rcases push_get h4 with g4 | ⟨e4, _⟩
      · exact (nof (by rw [← e1']; exact g2) g4 w2).elim
      · exact absurd (List.getElem?_eq_some_iff.mp g2).1 (by rw [e4, ← s.len]; omega)
    · rw [e1, e2]
  · rcases push_get h1 with h1 | ⟨e1, e1'⟩
    · have hn : n < W.length := by rw [s.len]; exact (List.getElem?_eq_some_iff.mp h1).1
      rw [List.getElem?_append_left hn] at h2
      have q := s.cell n c' a h1 h2
      refine q.imp (fun hw => ?_) (fun o' u h => x.frzs _ _ _ h) (fun _ _ r => r.ext x) fun _ _ r => r.ext x
      obtain ⟨o', ho, _⟩ := q.some hw
      rw [upd_ne (ne_of_none ho hp)]
    · rw [e1, ← s.len] at h2
      rw [push_at] at h2
      cases h2
      rw [e1']
      exact hc
/-- a cell is written -/
theorem StOk.write {n : Nat} {a : Addr} {c c' : Cell} {o : HO} (s : StOk G W st H) (hn : st[n]? = some c) (ha : W[n]? = some a) (hw : wr c = true) (hw' : wr c' = true)
    (hc : Ext W H W (upd H a o) → CellOk G W (upd H a o) a c') : Ext W H W (upd H a o) ∧ StOk G W (st.set n c') (upd H a o) := by
  obtain ⟨o0, ho, nf⟩ := (s.cell n c a hn ha).some hw
  have x : Ext W H W (upd H a o) := by
    refine ⟨List.prefix_refl _, fun _ h => .inl h, fun b u h hb _ => ?_, fun b u h hf => ?_⟩
    · rw [upd_ne fun z => hb (by rw [z]; exact List.mem_of_getElem? ha)]; exact h
    · rw [upd_ne fun z => by rw [z, ho] at h; cases h; rw [mutO_fix nf] at hf; cases hf]; exact h
  have hlt : n < st.length := (List.getElem?_eq_some_iff.mp hn).1
  have getset : ∀ {k : Nat} {ck : Cell}, (st.set n c')[k]? = some ck → (k = n ∧ ck = c') ∨ (k ≠ n ∧ st[k]? = some ck) := fun {k ck} h => by
    by_cases hk : n = k
    · subst hk
      rw [List.getElem?_set_self hlt] at h
      exact .inl ⟨rfl, (Option.some.inj h).symm⟩
    · rw [List.getElem?_set_ne hk] at h
      exact .inr ⟨fun z => hk z.symm, h⟩
  refine ⟨x, ⟨tabs_upd s.tab (fun u hu => by rw [ho] at hu; cases hu; exact nf), by simp [s.len], fun k m b c1 c2 h1 h2 h3 h4 w1 w2 => ?_, fun k ck b h1 h2 => ?_⟩⟩
  · have back : ∀ {k : Nat} {ck : Cell}, (st.set n c')[k]? = some ck → wr ck = true → ∃ ck', st[k]? = some ck' ∧ wr ck' = true := fun h hwk => by
      rcases getset h with ⟨rfl, rfl⟩ | ⟨_, h⟩
      · exact ⟨c, hn, hw⟩
      · exact ⟨_, h, hwk⟩
    obtain ⟨d1, e1, f1⟩ := back h3 w1
    obtain ⟨d2, e2, f2⟩ := back h4 w2
    exact s.inj k m b d1 d2 h1 h2 e1 e2 f1 f2
  · rcases getset h1 with ⟨rfl, rfl⟩ | ⟨hk, h⟩
    · rw [ha] at h2; cases h2
      exact hc x
    · have q := s.cell k ck b h h2
      refine q.imp (fun hwk => ?_) (fun o' u h => x.frzs _ _ _ h) (fun _ _ r => r.ext x) fun _ _ r => r.ext x
      refine upd_ne fun z => hk ?_
      rw [z] at h2
      exact s.inj k n a ck c h2 ha h hn hwk hw
/-- a thing off the store -/
structure Off (W : List Addr) (H : Hp) (p : Addr) : Prop where
  out : p ∉ W
  nf : ∀ u, H p = some u → offO u = true
theorem Off.ne {p a : Addr} {u : HO} (f : Off W H p) (h : H a = some u) (hu : offO u = false) : a ≠ p := fun z => by
  have := f.nf u (z ▸ h)
  rw [hu] at this; cases this
theorem Off.mor {p : Addr} {o : HO} (f : Off W H p) (K : Kl) : Mor K W H W (upd H p o) := ⟨fun h => h, fun {a vs} h => by
  rcases h with (h | ⟨u, h⟩) | h
  · exact .inl (.inl (by rw [upd_ne (f.ne h rfl)]; exact h))
  · exact .inl (.inr ⟨u, by rw [upd_ne (f.ne h rfl)]; exact h⟩)
  · exact .inr h, fun {a o u} h => by rw [upd_ne (f.ne h rfl)]; exact h, fun {a C dx gs} h n => ⟨by rw [upd_ne (f.ne h rfl)]; exact h, n⟩⟩
/-- it is written -/
theorem StOk.off {p : Addr} {o : HO} (s : StOk G W st H) (f : Off W H p) : StOk G W st (upd H p o) := by
  refine ⟨tabs_upd s.tab (fun u hu => offO_mut (f.nf u hu)), s.len, s.inj, fun n c a h1 h2 => (s.cell n c a h1 h2).imp (fun hw => ?_) (fun o' u h => ?_) (fun _ _ r => r.mor (f.mor _)) fun _ _ r => r.mor (f.mor _)⟩
  · exact upd_ne fun z => f.out (z ▸ List.mem_of_getElem? h2)
  · rw [upd_ne (f.ne h rfl)]; exact h
/-- .. seen from where it was not yet -/
theorem Ext.off {W1 : List Addr} {H1 : Hp} {p : Addr} {o : HO} (x : Ext W1 H1 W H) (h0 : ∀ u, H1 p = some u → ∃ ps, u = .tbl ps) : Ext W1 H1 W (upd H p o) :=
  ⟨x.pre, x.fresh, fun a u h hw hn => by rw [upd_ne fun z => by obtain ⟨ps, e⟩ := h0 u (z ▸ h); exact hn ps e]; exact x.keep a u h hw hn, fun a u h hf => by rw [upd_ne fun z => by obtain ⟨ps, e⟩ := h0 u (z ▸ h); rw [e] at hf; cases hf]; exact x.fix a u h hf⟩
theorem Ext.off0 {W1 : List Addr} {H1 : Hp} {p : Addr} {o : HO} (x : Ext W1 H1 W H) (h0 : H1 p = none) : Ext W1 H1 W (upd H p o) := x.off fun u e => by rw [h0] at e; cases e
theorem app_mor {p : Addr} (hi : ∀ C dx gs, H p ≠ some (.ins C dx gs)) (K : Kl) : Mor K W H (W ++ [p]) H := ⟨fun {n a} h => by rw [List.getElem?_append_left (List.getElem?_eq_some_iff.mp h).1]; exact h, fun h => h, fun h => h, fun {a C dx gs} h n => ⟨h, fun z => by
  rcases List.mem_append.mp z with z | z
  · exact n z
  · rw [List.mem_singleton] at z; subst z; exact hi _ _ _ h⟩⟩
/-- it becomes a cell -/
theorem StOk.adopt {p : Addr} {c : Cell} (s : StOk G W st H) (hi : ∀ C dx gs, H p ≠ some (.ins C dx gs)) (hp : p ∉ W) (hc : CellOk G (W ++ [p]) H p c) : StOk G (W ++ [p]) (st ++ [c]) H := by
  refine ⟨s.tab, by simp [s.len], fun n m a c1 c2 h1 h2 h3 h4 w1 w2 => ?_, fun n c' a h1 h2 => ?_⟩
  · rcases push_get h1 with g1 | ⟨e1, e1'⟩ <;> rcases push_get h2 with g2 | ⟨e2, e2'⟩
    · rcases push_get h3 with g3 | ⟨e3, _⟩
      · rcases push_get h4 with g4 | ⟨e4, _⟩
        · exact s.inj n m a c1 c2 g1 g2 g3 g4 w1 w2
        · exact absurd (List.getElem?_eq_some_iff.mp g2).1 (by rw [e4, ← s.len]; omega)
      · exact absurd (List.getElem?_eq_some_iff.mp g1).1 (by rw [e3, ← s.len]; omega)
    · exact absurd (List.mem_of_getElem? (e2' ▸ g1)) hp
    · exact absurd (List.mem_of_getElem? (e1' ▸ g2)) hp
    · rw [e1, e2]
  · rcases push_get h1 with h1 | ⟨e1, e1'⟩
    · have hn : n < W.length := by rw [s.len]; exact (List.getElem?_eq_some_iff.mp h1).1
      rw [List.getElem?_append_left hn] at h2
      exact (s.cell n c' a h1 h2).imp (fun _ => rfl) (fun _ _ h => h) (fun _ _ r => r.mor (app_mor hi _)) fun _ _ r => r.mor (app_mor hi _)
    · rw [e1, ← s.len, push_at] at h2
      cases h2
      rw [e1']
      exact hc
theorem Ext.adopt {W1 : List Addr} {H1 : Hp} {p : Addr} (x : Ext W1 H1 W H) (h0 : H1 p = none) : Ext W1 H1 (W ++ [p]) H :=
  ⟨x.pre.trans (List.prefix_append _ _), fun a ha => by
    rcases List.mem_append.mp ha with h | h
    · exact x.fresh a h
    · rw [List.mem_singleton] at h; subst h; exact .inr (fun o e => by rw [h0] at e; cases e), x.keep, x.fix⟩
/-- what is off stays off, as it was -/
theorem Ext.off_keep {W' : List Addr} {H' : Hp} {p : Addr} {o : HO} (x : Ext W H W' H') (hp : p ∉ W) (ho : H p = some o) (hf : offO o = true) : p ∉ W' ∧ H' p = some o := by
  refine ⟨fun h => ?_, x.keep p o ho hp (mutO_tbl (offO_mut hf))⟩
  exact x.out ho (mutO_tbl (offO_mut hf)) hp h
/-- what is named no more is dropped -/
theorem gc_ok {W1 : List Addr} {H1 : Hp} {st1 : Store} {l : Nat} (s : StOk G W st H) (x : Ext W H W1 H1) (s1 : StOk G W1 st1 H1) :
    ∃ W2, Ext W H W2 H1 ∧ StOk G W2 (gc st st1 l) H1 ∧ (∀ d v, d.lim ≤ l → Rep G.k W1 H1 d v → Rep G.k W2 H1 d v) ∧ (∀ ds vs, D.lims ds ≤ l → Reps G.k W1 H1 ds vs → Reps G.k W2 H1 ds vs) ∧ W2 <+: W1 := by
  unfold gc
  split
  · rename_i h
    obtain ⟨hl, hle, hm⟩ := h
    have eW : W1.take st.length = W := by
      obtain ⟨t, rfl⟩ := x.pre
      rw [← s.len]; exact List.take_left
    refine ⟨W, ⟨List.prefix_refl _, fun _ h => .inl h, x.keep, x.fix⟩, ⟨s1.tab, by rw [hm.1, s.len], fun n m a c c' h1 h2 h3 h4 w1 w2 => ?_, fun n c a h1 h2 => ?_⟩, fun d v hd r => ?_, fun ds vs hd r => ?_, x.pre⟩
    · have g : ∀ {k : Nat} {ck : Cell}, (st1.take st.length)[k]? = some ck → st1[k]? = some ck := fun {k ck} h => by
        have hk := (List.getElem?_eq_some_iff.mp h).1
        rw [List.length_take] at hk
        rw [List.getElem?_take_of_lt (by omega)] at h
        exact h
      exact s1.inj n m a c c' (x.get h1) (x.get h2) (g h3) (g h4) w1 w2
    · have hk := (List.getElem?_eq_some_iff.mp h1).1
      rw [List.length_take] at hk
      have h1' := h1
      rw [List.getElem?_take_of_lt (by omega)] at h1'
      have q := s1.cell n c a h1' (x.get h2)
      have hlim : Cell.lim c ≤ st.length := by
        rcases hm.2 n c h1 with z | z
        · have := (s.cell n c a z h2).lim_le
          rw [s.len] at this; exact this
        · exact z
      have := q.cut hlim
      rw [eW] at this
      exact this
    · have := r.cut (Nat.le_trans hd hl)
      rw [eW] at this
      exact this
    · have := r.cut (Nat.le_trans hd hl)
      rw [eW] at this
      exact this
  · exact ⟨W1, x, s1, fun _ _ _ r => r, fun _ _ _ r => r, List.prefix_refl _⟩
end
end MM
end

section
set_option Elab.async false
set_option linter.all false
set_option maxRecDepth 100000
set_option maxHeartbeats 4000000
/-! MMOps: operations on values keep the relation. -/
namespace MM
open PySem L2 PyProof.Rows
theorem big_eq : big = sizeLine := by rw [sizeLine_eq]; rfl
/-- what is wanted of a value that an operation gives (nothing is raised) -/
def Out (G : Gam) (W : List Addr) (H : Hp) (r : Res D) (Q : VK) : Prop :=
  match r with
  | .ok d st' => ∀ W' H' v, Ext W H W' H' → StOk G W' st' H' → Rep G.k W' H' d v → Q v H'
  | _ => False
section
variable {G : Gam} {W : List Addr} {H : Hp} {st : Store} {X : Cx}
theorem Out.same {d : D} {v : V} {Q : VK} (s : StOk G W st H) (r : Rep G.k W H d v) (h : Out G W H (.ok d st) Q) : Q v H := h W H v Ext.refl s r
theorem Out.newL {xs : List D} {vs : List V} {p : Addr} {Q : VK} (s : StOk G W st H) (r : Reps G.k W H xs vs) (h : Out G W H (.ok (.loc st.length) (st ++ [.lst xs])) Q) (hp : H p = none) : Q (.ref p) (upd H p (.lst vs)) := by
  have x : Ext W H (W ++ [p]) (upd H p (.lst vs)) := Ext.push hp
  exact h (W ++ [p]) _ (.ref p) x (s.push hp ⟨vs, upd_same, r.ext x⟩) (.loc (by rw [← s.len]; exact push_at W p))
theorem Out.newT {xs : List D} {vs : List V} {p : Addr} {Q : VK} (s : StOk G W st H) (r : Reps G.k W H xs vs) (h : Out G W H (.ok (.tup xs) st) Q) (hp : H p = none) : Q (.ref p) (upd H p (.tup vs)) := by
  have x : Ext W H W (upd H p (.tup vs)) := Ext.new hp
  exact h W _ (.ref p) x (s.new hp) (.tup (SqT.of upd_same) (r.ext x))
/-- what is read as a sequence -/
theorem cell_lst (s : StOk G W st H) {n : Nat} {a : Addr} {xs : List D} (h : st[n]? = some (.lst xs)) (ha : W[n]? = some a) : ∃ vs, H a = some (.lst vs) ∧ Reps G.k W H xs vs := s.cell n _ a h ha
theorem cell_rol (s : StOk G W st H) {n : Nat} {a : Addr} {xs : List D} (h : st[n]? = some (.rol xs)) (ha : W[n]? = some a) : ∃ vs, SqL G.k.K H a vs ∧ Reps G.k W H xs vs := by
  obtain ⟨vs, h1, h2⟩ := s.cell n _ a h ha
  obtain ⟨o, h1⟩ := h1
  exact ⟨vs, .inl (.inr ⟨o, h1⟩), h2⟩
theorem cell_dic (s : StOk G W st H) {n : Nat} {a : Addr} {kvs : List (D × D)} (h : st[n]? = some (.dic kvs)) (ha : W[n]? = some a) : ∃ ks, H a = some (.dK ks) ∧ DicR G.k W H kvs ks := s.cell n _ a h ha
theorem items_ok (s : StOk G W st H) {d : D} {v : V} {xs : List D} (r : Rep G.k W H d v) (h : itemsOf st d = some xs) : ∃ a vs, v = .ref a ∧ Reps G.k W H xs vs ∧ (SqL G.k.K H a vs ∨ (SqT G.k.K H a vs ∧ d = .tup xs)) := by
  cases r with
  | fl h1 h2 => simp only [itemsOf, Option.some.injEq] at h; subst h; exact ⟨_, _, rfl, h2, .inl (.inl (.inr ⟨_, h1⟩))⟩
  | tup h1 h2 => simp only [itemsOf, Option.some.injEq] at h; subst h; exact ⟨_, _, rfl, h2, .inr ⟨h1, rfl⟩⟩
  | @loc n a ha =>
    simp only [itemsOf] at h
    split at h
    · rename_i e; simp only [Option.some.injEq] at h; subst h
      obtain ⟨vs, h1, h2⟩ := cell_lst s e ha
      exact ⟨a, vs, rfl, h2, .inl (SqL.of h1)⟩
    · rename_i e; simp only [Option.some.injEq] at h; subst h
      obtain ⟨vs, h1, h2⟩ := cell_rol s e ha
      exact ⟨a, vs, rfl, h2, .inl h1⟩
    · cases h
  | _ => simp [itemsOf] at h

/-- a list's items: it stands in the abstract heap, perhaps as one that is known to the object -/
theorem lst_ok (s : StOk G W st H) {d : D} {v : V} {xs : List D} (r : Rep G.k W H d v) (h : lstOf st d = some xs) : ∃ a vs, v = .ref a ∧ Rd H a (.lst vs) ∧ Reps G.k W H xs vs := by
  cases r with
  | fl h1 h2 => simp only [lstOf, Option.some.injEq] at h; subst h; exact ⟨_, _, rfl, .inr ⟨_, h1⟩, h2⟩
  | @loc n a ha =>
    simp only [lstOf] at h
    split at h
    · rename_i e; simp only [Option.some.injEq] at h; subst h
      obtain ⟨vs, h1, h2⟩ := cell_lst s e ha
      exact ⟨a, vs, rfl, .inl h1, h2⟩
    · rename_i e; simp only [Option.some.injEq] at h; subst h
      obtain ⟨vs, ⟨o, h1⟩, h2⟩ := s.cell _ _ a e ha
      exact ⟨a, vs, rfl, .inr ⟨o, h1⟩, h2⟩
    · cases h
  | _ => simp [lstOf] at h
theorem Rd.sq {K : PySem.W.Frag} {H : Hp} {a : Addr} {vs : List V} (h : Rd H a (.lst vs)) : SqL K H a vs := .inl h

/-! ### deep data -/
section
variable {pins : List (Addr × Obj)} {σ : L2.St} {s : Shared}
/-- an address that is not sys.modules, or holds a list -/
def NotSys (s : Shared) (as : List Addr) : Prop := ∀ b ∈ as, (∃ o, s.heap.get? b = some o ∧ o.cls = .type "list") ∨ (b == sysModules) = false
theorem NotSys.nil : NotSys s [] := fun _ h => nomatch h
theorem NotSys.app {as bs : List Addr} (a : NotSys s as) (b : NotSys s bs) : NotSys s (as ++ bs) := fun c h => (List.mem_append.mp h).elim (a c) (b c)
theorem NotSys.cons {b : Addr} {as : List Addr} (a : NotSys s as) (h : (∃ o, s.heap.get? b = some o ∧ o.cls = .type "list") ∨ (b == sysModules) = false) : NotSys s (b :: as) := fun c hc => (List.mem_cons.mp hc).elim (fun e => e ▸ h) (a c)
theorem kv_reads {K : Kl} {P : Program} {w : World} {prev : Nat → Option PyData} : ∀ {kvs : List (D × D)} {ks : List (Key × V)} {vs : List (Key × Value)} {es : List DictEntry} {a : List PyData},
    DicR K W H kvs ks → KV ks vs → Pairs (mixKind P w) es vs → toPws prev (kvs.map (·.1)) = some a → ∃ as, ReadsAll s.heap (es.map (·.key)) a as ∧ NotSys s as := by
  intro kvs ks vs es a h
  induction h generalizing vs es a with
  | nil =>
    intro h1 h2 h3
    cases h1; cases h2
    simp [toPws] at h3
    subst h3
    exact ⟨_, ReadsAll.nil, .nil⟩
  | @cons p q l1 l2 h0 ht ih =>
    intro h1 h2 h3
    cases h1 with
    | @cons _ kv _ vs' e1 e2 =>
      cases h2 with
      | cons g1 g2 g3 =>
        rename_i e es'
        rw [List.map_cons] at h3
        simp only [toPws] at h3
        split at h3
        · rename_i x y hx hy
          simp only [Option.some.injEq] at h3
          subst h3
          obtain ⟨as, ra, ns⟩ := ih e2 g3 hy
          have hk : keyIs q.1 e.key = true := by rw [e1.1]; exact g1
          cases hp : p.1 <;> rw [hp] at h0 hx <;> simp [keyD] at h0
          · rw [← h0.1] at hk
            rcases keyIs_shape hk with ⟨i, t, e3, e4⟩ | ⟨z, t, e3, e4⟩
            · cases e3
              simp [toPw] at hx
              subst hx
              rw [List.map_cons, e4]
              exact ⟨_, ReadsAll.cons (.int _ _) ra, NotSys.nil.app ns⟩
            · cases e3
          · rw [← h0.1] at hk
            rcases keyIs_shape hk with ⟨i, t, e3, e4⟩ | ⟨z, t, e3, e4⟩
            · cases e3
            · cases e3
              simp [toPw] at hx
              subst hx
              rw [List.map_cons, e4]
              exact ⟨_, ReadsAll.cons (.str _ _) ra, NotSys.nil.app ns⟩
        · cases h3
theorem kv_vals {K : Kl} {P : Program} {w : World} {prev : Nat → Option PyData} {p : D → Option PyData} : ∀ {kvs : List (D × D)} {ks : List (Key × V)} {vs : List (Key × Value)} {es : List DictEntry},
    DicR K W H kvs ks → KV ks vs → Pairs (mixKind P w) es vs → ∃ ws, Reps K W H (kvs.map (·.2)) ws ∧ Vals ws (es.map (·.val)) := by
  intro kvs ks vs es h
  induction h generalizing vs es with
  | nil =>
    intro h1 h2
    cases h1; cases h2
    exact ⟨[], .nil, .nil⟩
  | @cons p q l1 l2 h0 ht ih =>
    intro h1 h2
    cases h1 with
    | @cons _ kv _ vs' e1 e2 =>
      cases h2 with
      | cons g1 g2 g3 =>
        rename_i e es'
        obtain ⟨ws, a, b⟩ := ih e2 g3
        refine ⟨q.2 :: ws, .cons h0.2 a, ?_⟩
        rw [List.map_cons]
        refine .cons ?_ b
        rw [g2]
        exact e1.2
theorem reads_zip {h : Heap} {ks vs : List Value} {a b : List PyData} {as bs : List Addr} (h1 : ReadsAll h ks a as) (h2 : ReadsAll h vs b bs) (hl : a.length = b.length) : ReadsAll h ks ((a.zip b).map (·.1)) as ∧ ReadsAll h vs ((a.zip b).map (·.2)) bs := by
  have e1 : (a.zip b).map (·.1) = a := by rw [List.map_fst_zip (by omega)]
  have e2 : (a.zip b).map (·.2) = b := by rw [List.map_snd_zip (by omega)]
  rw [e1, e2]
  exact ⟨h1, h2⟩
theorem toPws_len {prev : Nat → Option PyData} : ∀ {xs : List D} {a : List PyData}, toPws prev xs = some a → a.length = xs.length
  | [], a, h => by simp [toPws] at h; subst h; rfl
  | x :: r, a, h => by
    simp only [toPws] at h
    split at h
    · rename_i y z _ hz
      simp only [Option.some.injEq] at h
      subst h
      rw [List.length_cons, List.length_cons, toPws_len hz]
    · cases h
mutual
theorem pw_reads (I : Inv X pins σ H s) (hK : G.k.K = X.K) (so : StOk G W st H) {prev : Nat → Option PyData} (hp : ∀ n p a, prev n = some p → W[n]? = some a → ∃ as, Reads s.heap (.ref a) p as ∧ NotSys s as) :
    ∀ (d : D) (v : V) (u : Value) (p : PyData), Rep G.k W H d v → RelV v u → toPw prev d = some p → ∃ as, Reads s.heap u p as ∧ NotSys s as
  | .non, _, _, _, r, ru, h => by cases r; cases ru; simp [toPw] at h; subst h; exact ⟨_, Reads.none, .nil⟩
  | .bl b, _, _, _, r, ru, h => by cases r; cases ru; simp [toPw] at h; subst h; exact ⟨_, Reads.bool b, .nil⟩
  | .int i, _, _, _, r, ru, h => by cases r; obtain ⟨t, rfl⟩ := ru; simp [toPw] at h; subst h; exact ⟨_, Reads.int i t, .nil⟩
  | .str x, _, _, _, r, ru, h => by cases r; obtain ⟨t, rfl⟩ := ru; simp [toPw] at h; subst h; exact ⟨_, Reads.str x t, .nil⟩
  | .tup xs, _, _, _, r, ru, h => by
    cases r with
    | tup hq ha =>
      cases ru
      simp only [toPw] at h
      cases e : toPws prev xs with
      | none => rw [e] at h; cases h
      | some ps =>
        rw [e] at h
        simp only [Option.map_some, Option.some.injEq] at h
        subst h
        obtain ⟨its, rv, ⟨o, ho, hc, n, hd⟩, _⟩ := I.tuple (by rw [← hK]; exact hq)
        obtain ⟨as, hr, ns⟩ := pws_reads I hK so hp xs _ its ps ha rv e
        exact ⟨_, Reads.tuple ho hc hd hr, ns⟩
  | .fl xs, _, _, _, r, ru, h => by
    cases r with
    | @fl a o vs _ hq ha =>
      cases ru
      simp only [toPw] at h
      cases e : toPws prev xs with
      | none => rw [e] at h; cases h
      | some ps =>
        rw [e] at h
        simp only [Option.map_some, Option.some.injEq] at h
        subst h
        obtain ⟨its, rv, ⟨o, m, ho, hcl, _, hd⟩, _⟩ := I.list (show SqL X.K H a vs from .inl (.inr ⟨_, hq⟩))
        obtain ⟨as, hr, ns⟩ := pws_reads I hK so hp xs _ its ps ha rv e
        exact ⟨_, Reads.list ho hcl hd hr, ns.cons (.inl ⟨o, ho, hcl⟩)⟩
  | .obj _ _ _, _, _, _, r, ru, h => by simp [toPw] at h
  | .loc n, _, _, p, r, ru, h => by
    cases r with
    | loc ha =>
      cases ru
      simp only [toPw] at h
      exact hp n p _ h ha
theorem pws_reads (I : Inv X pins σ H s) (hK : G.k.K = X.K) (so : StOk G W st H) {prev : Nat → Option PyData} (hp : ∀ n p a, prev n = some p → W[n]? = some a → ∃ as, Reads s.heap (.ref a) p as ∧ NotSys s as) :
    ∀ (ds : List D) (vs : List V) (us : List Value) (ps : List PyData), Reps G.k W H ds vs → Vals vs us → toPws prev ds = some ps → ∃ as, ReadsAll s.heap us ps as ∧ NotSys s as
  | [], _, _, _, r, ru, h => by cases r; cases ru; simp [toPws] at h; subst h; exact ⟨_, ReadsAll.nil, .nil⟩
  | d :: ds, _, _, _, r, ru, h => by
    cases r with
    | cons r1 r2 =>
      cases ru with
      | cons u1 u2 =>
        simp only [toPws] at h
        split at h
        · rename_i x y hx hy
          simp only [Option.some.injEq] at h
          subst h
          obtain ⟨as, q1, n1⟩ := pw_reads I hK so hp d _ _ _ r1 u1 hx
          obtain ⟨bs, q2, n2⟩ := pws_reads I hK so hp ds _ _ _ r2 u2 hy
          exact ⟨_, ReadsAll.cons q1 q2, n1.app n2⟩
        · cases h
end
theorem pcell_reads (I : Inv X pins σ H s) (hK : G.k.K = X.K) (so : StOk G W st H) : ∀ (k n : Nat) (p : PyData) (a : Addr), pcellN st k n = some p → W[n]? = some a → ∃ as, Reads s.heap (.ref a) p as ∧ NotSys s as
  | 0, n, p, a, h, _ => by simp [pcellN] at h
  | k + 1, n, p, a, h, ha => by
    have hp := pcell_reads I hK so k
    have hp' : ∀ n p a, pcellN st k n = some p → W[n]? = some a → ∃ as, Reads s.heap (.ref a) p as ∧ NotSys s as := fun n p a h1 h2 => hp n p a h1 h2
    simp only [pcellN] at h
    split at h
    · rename_i c hc
      cases c with
      | lst xs =>
        obtain ⟨vs, h1, h2⟩ := cell_lst so hc ha
        simp only [pcell] at h
        cases e : toPws (pcellN st k) xs with
        | none => rw [e] at h; cases h
        | some ps =>
          rw [e] at h
          simp only [Option.map_some, Option.some.injEq] at h
          subst h
          obtain ⟨its, rv, ⟨o, m, ho, hcl, _, hd⟩, _⟩ := I.list (SqL.of h1)
          obtain ⟨as, hr, ns⟩ := pws_reads I hK so hp' xs _ its ps h2 rv e
          exact ⟨_, Reads.list ho hcl hd hr, ns.cons (.inl ⟨o, ho, hcl⟩)⟩
      | rol xs =>
        obtain ⟨vs, h1, h2⟩ := cell_rol so hc ha
        simp only [pcell] at h
        cases e : toPws (pcellN st k) xs with
        | none => rw [e] at h; cases h
        | some ps =>
          rw [e] at h
          simp only [Option.map_some, Option.some.injEq] at h
          subst h
          obtain ⟨its, rv, ⟨o, m, ho, hcl, _, hd⟩, _⟩ := I.list (by rw [← hK]; exact h1)
          obtain ⟨as, hr, ns⟩ := pws_reads I hK so hp' xs _ its ps h2 rv e
          exact ⟨_, Reads.list ho hcl hd hr, ns.cons (.inl ⟨o, ho, hcl⟩)⟩
      | dic kvs =>
        obtain ⟨ks, h1, h2⟩ := cell_dic so hc ha
        simp only [pcell] at h
        split at h
        · rename_i x y hx hy
          simp only [Option.some.injEq] at h
          subst h
          obtain ⟨_, hsys, vs, kv, o, es, ep, ho, hex, hd, _, hpr, _⟩ := I.hok a _ h1
          obtain ⟨as, ra, n1⟩ := kv_reads (s := s) h2 kv hpr hx
          obtain ⟨ws, rw1, rw2⟩ := kv_vals (prev := pcellN st k) (p := fun _ => none) h2 kv hpr
          obtain ⟨bs, rb, n2⟩ := pws_reads I hK so hp' _ _ _ _ rw1 rw2 hy
          have hl : x.length = y.length := by rw [toPws_len hx, toPws_len hy]; simp
          obtain ⟨z1, z2⟩ := reads_zip ra rb hl
          exact ⟨_, Reads.dict ho hex.1 hd z1 z2, (n1.app n2).cons (.inr hsys)⟩
        · cases h
      | ins c fs => simp [pcell] at h
    · cases h
theorem toP_reads (I : Inv X pins σ H s) (hK : G.k.K = X.K) (so : StOk G W st H) {d : D} {v : V} {u : Value} {p : PyData} (r : Rep G.k W H d v) (ru : RelV v u) (h : toP st d = some p) : ∃ as, Reads s.heap u p as ∧ NotSys s as :=
  pw_reads I hK so (fun n p a h1 h2 => pcell_reads I hK so 30 n p a h1 h2) d v u p r ru h
end
end
end MM
end

section
set_option Elab.async false
set_option linter.all false
set_option maxRecDepth 100000
set_option maxHeartbeats 4000000
/-! MMOps2: operators, comparisons, truth, items, slices keep the relation. -/
namespace MM
open PySem L2 PyProof.Rows
variable {G : Gam} {X : Cx}
def rBin (G : Gam) (op : Operator) : R2 := fun x y H Q => ∃ W st d e, StOk G W st H ∧ Rep G.k W H d x ∧ Rep G.k W H e y ∧ Out G W H (binD op d e st) Q
theorem Reps.nil_iff {K : Kl} {W : List Addr} {H : Hp} {xs : List D} {vs : List V} (r : Reps K W H xs vs) : vs = [] ↔ xs = [] := by cases r <;> simp
/-! list + list, list * int, of lists that may be known to the object -/
theorem Inv.rdM {l : Addr} {xs : List V} {X : Cx} {pins : List (Addr × Obj)} {σ : L2.St} {H : Hp} {s : Shared} (I : Inv X pins σ H s) (hH : Rd H l (.lst xs)) : xs.length ≤ sizeLine ∧ ∃ (its : List Value) (n : Nat), Vals xs its ∧ xs.length = its.length ∧ s.heap.get? l = some { cls := .type "list", data := .seq its.toArray n } := by
  obtain ⟨z, its, n, r, e⟩ := hH.ok I.hok
  exact ⟨z, its, n, r, r.length, e⟩
def rCatR : R2 := fun x y H Q => ∃ l b xs zs, x = .ref l ∧ y = .ref b ∧ Rd H l (.lst xs) ∧ Rd H b (.lst zs) ∧ xs.length + zs.length ≤ sizeLine ∧ ∀ p, H p = none → Q (.ref p) (upd H p (.lst (xs ++ zs)))
theorem op_catR : OpR X (binaryOp .Add) rCatR := by
  rintro pins s σ H _ _ v u Q I rx ry ⟨l, b, xs, zs, rfl, rfl, hx, hy, hz, q⟩
  cases rx
  cases ry
  obtain ⟨_, as, n, r, k1, e⟩ := Inv.rdM I hx
  obtain ⟨_, bs, m, r', k2, e'⟩ := Inv.rdM I hy
  have sum : as.toArray.size + bs.toArray.size ≤ sizeLine := by simp only [List.size_toArray]; omega
  have new := I.lnew (t' := s.toks) (r.append r') (by simpa using hz)
  have one : as.toArray ++ bs.toArray = (as ++ bs).toArray := by simp
  refine PySem.P.add_list e e' ?_ sum
  rw [one]
  exact ⟨V.ref s.heap.objs.size, _, new, rfl, q _ I.fresh⟩
theorem cat_ok {pins : List (Addr × Obj)} {s : Shared} {σ : L2.St} {H : Hp} {W : List Addr} {st : Store} {d e : D} {x y : V} {v u : Value} {Q : VK} (so : StOk G W st H) (rd : Rep G.k W H d x) (re : Rep G.k W H e y) (h : Out G W H (catD d e st) Q) (I : Inv X pins σ H s) (rx : RelV x v) (ry : RelV y u) :
    wpAny (model X.prog X.w) X.A (binaryOp .Add v u) (EP X pins σ Q) X.xe s := by
  unfold catD at h
  split at h
  · rename_i xs ys e1 e2
    split at h
    · rename_i hz
      obtain ⟨a, vs, rfl, h1, hr⟩ := lst_ok so rd e1
      obtain ⟨b, ws, rfl, h2, hr'⟩ := lst_ok so re e2
      rw [hr.length, hr'.length, big_eq] at hz
      exact op_catR pins s σ H _ _ v u Q I rx ry ⟨a, b, vs, ws, rfl, rfl, h1, h2, hz, fun p hp => h.newL so (hr.append hr') hp⟩
    · exact False.elim h
  · exact False.elim h
theorem rep_ok {pins : List (Addr × Obj)} {s : Shared} {σ : L2.St} {H : Hp} {W : List Addr} {st : Store} {n : Nat} {k : Int} {x : V} {v u : Value} {Q : VK} (so : StOk G W st H) (rd : Rep G.k W H (.loc n) x) (h : Out G W H (repD (.loc n) k st) Q) (I : Inv X pins σ H s) (rx : RelV x v) (ry : RelV (.int k) u) :
    wpAny (model X.prog X.w) X.A (binaryOp .Mult v u) (EP X pins σ Q) X.xe s := by
  unfold repD at h
  dsimp only at h
  split at h
  · rename_i xs e1
    split at h
    · rename_i hz
      cases rd with
      | @loc _ a ha =>
        obtain ⟨vs, h1, hr⟩ := cell_lst so e1 ha
        obtain ⟨z1, z2, z3⟩ := hz
        rw [hr.length, big_eq] at z1
        exact op_rep pins s σ H _ _ v u Q I rx ry ⟨a, k, vs, rfl, rfl, h1, z2, z3, z1, fun p hp => h.newL so (hr.flat _) hp⟩
    · exact False.elim h
  · exact False.elim h
theorem op_bin (hK : G.k.K = X.K) (op : Operator) : OpR X (binaryOp op) (rBin G op) := by
  intro pins s σ H x y v u Q I rx ry ⟨W, st, d, e, so, rd, re, h⟩
  cases op with
  | Add =>
    simp only [binD, addD] at h
    cases rd with
    | int i =>
      cases re with
      | int j => exact op_add pins s σ H _ _ v u Q I rx ry ⟨i, j, rfl, rfl, h.same so (.int _)⟩
      | _ => exact False.elim h
    | str a =>
      cases re with
      | str b =>
        dsimp only at h
        split at h
        · rename_i hz
          exact op_add_str pins s σ H _ _ v u Q I rx ry ⟨a, b, rfl, rfl, by rw [← big_eq]; exact hz, h.same so (.str _)⟩
        · exact False.elim h
      | _ => exact False.elim h
    | @tup a vs xs ha hr =>
      cases re with
      | @tup b ws ys hb hr' =>
        dsimp only at h
        split at h
        · rename_i hz
          rw [hr.length, hr'.length, big_eq] at hz
          refine op_catA pins s σ H _ _ v u Q I rx ry ⟨a, b, vs, ws, rfl, rfl, by rw [← hK]; exact ha, by rw [← hK]; exact hb, hz, fun hn => ?_, fun _ hn => ?_, fun _ _ p hp => ?_⟩
          · rw [hr.nil_iff] at hn
            subst hn
            exact h.same so (.tup hb hr')
          · rw [hr'.nil_iff] at hn
            subst hn
            rw [List.append_nil] at h
            exact h.same so (.tup ha hr)
          · exact h.newT so (hr.append hr') hp
        · exact False.elim h
      | _ => exact False.elim h
    | fl h1 h2 => exact cat_ok so (.fl h1 h2) re h I rx ry
    | loc ha => exact cat_ok so (.loc ha) re h I rx ry
    | _ => exact False.elim h
  | Sub =>
    simp only [binD] at h
    cases rd with
    | int i =>
      cases re with
      | int j => exact op_sub pins s σ H _ _ v u Q I rx ry ⟨i, j, rfl, rfl, h.same so (.int _)⟩
      | _ => exact False.elim h
    | _ => exact False.elim h
  | Mult =>
    simp only [binD, mulD] at h
    cases rd with
    | int i =>
      cases re with
      | int j =>
        dsimp only at h
        split at h
        · rename_i hz
          exact op_mulW pins s σ H _ _ v u Q I rx ry ⟨i, j, rfl, rfl, hz, h.same so (.int _)⟩
        · exact False.elim h
      | _ => exact False.elim h
    | @tup a vs xs ha hr =>
      cases re with
      | int k =>
        dsimp only at h
        split at h
        · rename_i hz
          obtain ⟨z1, z2, z3, z4⟩ := hz
          rw [hr.length] at z4
          exact op_repT pins s σ H _ _ v u Q I rx ry ⟨a, k, vs, rfl, rfl, by rw [← hK]; exact ha, fun z => z1 (hr.nil_iff.mp z), z2, z3, z4, fun p hp => h.newT so (hr.flat _) hp⟩
        · exact False.elim h
      | _ => exact False.elim h
    | loc ha =>
      cases re with
      | int k => exact rep_ok so (.loc ha) h I rx ry
      | _ => exact False.elim h
    | _ => exact False.elim h
  | FloorDiv =>
    simp only [binD] at h
    cases rd with
    | int i =>
      cases re with
      | int j =>
        dsimp only at h
        split at h
        · rename_i hz
          exact op_fdivW pins s σ H _ _ v u Q I rx ry ⟨i, j, rfl, rfl, hz, h.same so (.int _)⟩
        · exact False.elim h
      | _ => exact False.elim h
    | _ => exact False.elim h
  | Mod =>
    simp only [binD] at h
    cases rd with
    | int i =>
      cases re with
      | int j =>
        dsimp only at h
        split at h
        · rename_i hz
          exact op_mod pins s σ H _ _ v u Q I rx ry ⟨i, j, rfl, rfl, hz, h.same so (.int _)⟩
        · exact False.elim h
      | _ => exact False.elim h
    | _ => exact False.elim h
  | Pow =>
    simp only [binD] at h
    cases rd with
    | int i =>
      cases re with
      | int j =>
        dsimp only at h
        split at h
        · rename_i hz
          exact op_pow pins s σ H _ _ v u Q I rx ry ⟨i, j, rfl, rfl, hz, h.same so (.int _)⟩
        · exact False.elim h
      | _ => exact False.elim h
    | _ => exact False.elim h
  | BitAnd =>
    simp only [binD] at h
    cases rd with
    | int i =>
      cases re with
      | int j => exact op_and pins s σ H _ _ v u Q I rx ry ⟨i, j, rfl, rfl, h.same so (.int _)⟩
      | _ => exact False.elim h
    | _ => exact False.elim h
  | BitOr =>
    simp only [binD] at h
    cases rd with
    | int i =>
      cases re with
      | int j => exact op_or pins s σ H _ _ v u Q I rx ry ⟨i, j, rfl, rfl, h.same so (.int _)⟩
      | _ => exact False.elim h
    | _ => exact False.elim h
  | BitXor =>
    simp only [binD] at h
    cases rd with
    | int i =>
      cases re with
      | int j => exact op_xor pins s σ H _ _ v u Q I rx ry ⟨i, j, rfl, rfl, h.same so (.int _)⟩
      | _ => exact False.elim h
    | _ => exact False.elim h
  | LShift =>
    simp only [binD] at h
    cases rd with
    | int i =>
      cases re with
      | int j =>
        dsimp only at h
        split at h
        · rename_i hz
          exact op_shl pins s σ H _ _ v u Q I rx ry ⟨i, j, rfl, rfl, hz, h.same so (.int _)⟩
        · exact False.elim h
      | _ => exact False.elim h
    | _ => exact False.elim h
  | RShift =>
    simp only [binD] at h
    cases rd with
    | int i =>
      cases re with
      | int j =>
        dsimp only at h
        split at h
        · rename_i hz
          exact op_shr pins s σ H _ _ v u Q I rx ry ⟨i, j, rfl, rfl, hz, h.same so (.int _)⟩
        · exact False.elim h
      | _ => exact False.elim h
    | _ => exact False.elim h
  | _ => exact False.elim h
/-! ### truth -/
theorem tru_V (hK : G.k.K = X.K) {W : List Addr} {H : Hp} {st : Store} {d : D} {v : V} {k : Bool} (so : StOk G W st H) (r : Rep G.k W H d v) (h : truD d st = some k) : TruV X.K v H k := by
  cases r with
  | non => simp [truD] at h; show k = false; exact h
  | bl b => simp [truD] at h; exact h.symm
  | int i => simp [truD] at h; exact h.symm
  | str x =>
    simp only [truD] at h
    split at h
    · rename_i hz
      simp only [Option.some.injEq] at h
      refine ⟨by rw [← big_eq]; exact hz, ?_⟩
      rw [← h]
      cases e : x.length <;> simp <;> omega
    · cases h
  | @tup a vs xs ha hr =>
    simp only [truD, Option.some.injEq] at h
    refine .inr (.inl ⟨vs, by rw [← hK]; exact ha, ?_⟩)
    rw [← hr.isEmpty]; exact h.symm
  | fl h1 h2 =>
    simp only [truD, Option.some.injEq] at h
    refine .inl ⟨_, .inl (.inr ⟨_, h1⟩), ?_⟩
    rw [← h2.isEmpty]; exact h.symm
  | obj => simp [truD] at h
  | @loc n a ha =>
    simp only [truD] at h
    split at h
    · rename_i e
      simp only [Option.some.injEq] at h
      obtain ⟨vs, h1, h2⟩ := cell_lst so e ha
      refine .inl ⟨vs, SqL.of h1, ?_⟩
      rw [← h2.isEmpty]; exact h.symm
    · rename_i e
      simp only [Option.some.injEq] at h
      obtain ⟨vs, h1, h2⟩ := cell_rol so e ha
      refine .inl ⟨vs, by rw [← hK]; exact h1, ?_⟩
      rw [← h2.isEmpty]; exact h.symm
    · rename_i e
      simp only [Option.some.injEq] at h
      obtain ⟨ks, h1, h2⟩ := cell_dic so e ha
      refine .inr (.inr ⟨ks, h1, ?_⟩)
      rw [← h]
      cases h2 <;> rfl
    · cases h
/-! ### comparisons -/
def rCmp (G : Gam) (op : CmpOp) : R2 := fun x y H Q => ∃ W st d e k, StOk G W st H ∧ Rep G.k W H d x ∧ Rep G.k W H e y ∧ cmpD op d e st = some k ∧ Q (.bl k) H
theorem flatV_of {K : Kl} {W : List Addr} {H : Hp} {d : D} {v : V} (r : Rep K W H d v) (h : flatD d = true) : flatV v = true := by cases r <;> first | rfl | (simp [flatD] at h)
theorem flatVs_of {K : Kl} {W : List Addr} {H : Hp} : ∀ {ds : List D} {vs : List V}, Reps K W H ds vs → ds.all flatD = true → vs.all flatV = true
  | _, _, .nil, _ => rfl
  | _, _, .cons r t, h => by
    rw [List.all_cons, Bool.and_eq_true] at h
    rw [List.all_cons, flatV_of r h.1, flatVs_of t h.2]; rfl
theorem eqF_V {K : Kl} {W : List Addr} {H : Hp} {d e : D} {v w : V} (r : Rep K W H d v) (q : Rep K W H e w) (h : flatD d = true) (h' : flatD e = true) : eqF d e = eqV v w := by
  cases r <;> cases q <;> first | (simp [flatD] at h; done) | (simp [flatD] at h'; done) | rfl | (simp [eqF, eqV]; done)
theorem any_V {K : Kl} {W : List Addr} {H : Hp} {d : D} {v : V} (r : Rep K W H d v) (h : flatD d = true) : ∀ {ds : List D} {vs : List V}, Reps K W H ds vs → ds.all flatD = true → (ds.any fun y => eqF y d) = inV v vs
  | _, _, .nil, _ => rfl
  | _, _, .cons q t, h' => by
    rw [List.all_cons, Bool.and_eq_true] at h'
    have ih := any_V r h t h'.2
    unfold inV at ih ⊢
    rw [List.any_cons, List.any_cons, eqF_V q r h'.1 h, ih]
theorem find_V {K : Kl} {W : List Addr} {H : Hp} (k : Key) {kvs : List (D × D)} {ks : List (Key × V)} (h : DicR K W H kvs ks) : (findK k kvs = none ∧ valV ks k = none) ∨ ∃ d v, findK k kvs = some d ∧ valV ks k = some v ∧ Rep K W H d v := by
  induction h with
  | nil => exact .inl ⟨rfl, rfl⟩
  | @cons p q l1 l2 h0 t ih =>
    unfold findK
    by_cases e : q.1 = k
    · rw [if_pos (by rw [h0.1, e]), valV_pos e]
      exact .inr ⟨_, _, rfl, rfl, h0.2⟩
    · rw [if_neg (by rw [h0.1]; simpa using e), valV_neg e]
      exact ih
theorem find_isSome {K : Kl} {W : List Addr} {H : Hp} (k : Key) {kvs : List (D × D)} {ks : List (Key × V)} (h : DicR K W H kvs ks) : (findK k kvs).isSome = (valV ks k).isSome := by
  rcases find_V k h with ⟨a, b⟩ | ⟨_, _, a, b, _⟩ <;> rw [a, b] <;> rfl
theorem key_V {K : Kl} {W : List Addr} {H : Hp} {d : D} {v : V} {k : Key} (r : Rep K W H d v) (h : keyD d = some k) : v = kV k := by
  cases r <;> simp [keyD] at h <;> subst h <;> rfl
theorem in_ok (hK : G.k.K = X.K) (hu : X.A.units + 64 < cLine) {neg : Bool} {W : List Addr} {H : Hp} {st : Store} {d e : D} {x y : V} {v u : Value} {k : Bool} {Q : VK} {pins : List (Addr × Obj)} {s : Shared} {σ : L2.St} (I : Inv X pins σ H s) (rx : RelV x v) (ry : RelV y u)
    (so : StOk G W st H) (rd : Rep G.k W H d x) (re : Rep G.k W H e y) (h : inD d e st = some k) (q : Q (.bl (if neg then !k else k)) H) :
    wpAny (model X.prog X.w) X.A (compareOp (if neg then .NotIn else .In) v u) (EP X pins σ Q) X.xe s := by
  have seq : ∀ {p : Addr} {vs : List V} {ys : List D}, y = .ref p → (SqL X.K H p vs ∨ SqT X.K H p vs) → Reps G.k W H ys vs → (if (flatD d && ys.all flatD) = true then some (ys.any fun y => eqF y d) else none) = some k →
      wpAny (model X.prog X.w) X.A (compareOp (if neg then .NotIn else .In) v u) (EP X pins σ Q) X.xe s := by
    intro p vs ys ey hs hr hk
    split at hk
    · rename_i hf
      rw [Bool.and_eq_true] at hf
      simp only [Option.some.injEq] at hk
      have e1 := any_V rd hf.1 hr hf.2
      rw [e1] at hk
      cases neg with
      | false => exact op_in_seq pins s σ H x y v u Q I rx ry ⟨p, vs, ey, hs, flatV_of rd hf.1, flatVs_of hr hf.2, by rw [hk]; exact q⟩
      | true => exact op_notIn_seq pins s σ H x y v u Q I rx ry ⟨p, vs, ey, hs, flatV_of rd hf.1, flatVs_of hr hf.2, by rw [hk]; exact q⟩
    · cases hk
  cases re with
  | str t =>
    simp only [inD] at h
    cases rd with
    | str z =>
      simp only [Option.some.injEq] at h
      cases neg with
      | false => exact op_in_str pins s σ H _ _ v u Q I rx ry ⟨z, t, rfl, rfl, by rw [h]; exact q⟩
      | true => exact op_notIn_str pins s σ H _ _ v u Q I rx ry ⟨z, t, rfl, rfl, by rw [h]; exact q⟩
    | _ => cases h
  | @tup a vs xs ha hr => exact seq rfl (.inr (by rw [← hK]; exact ha)) hr h
  | @fl a o vs xs ha hr => exact seq rfl (.inl (.inl (.inr ⟨_, ha⟩))) hr h
  | @loc n a ha =>
    simp only [inD] at h
    split at h
    · rename_i e1
      obtain ⟨vs, h1, h2⟩ := cell_lst so e1 ha
      exact seq rfl (.inl (SqL.of h1)) h2 h
    · rename_i e1
      obtain ⟨vs, h1, h2⟩ := cell_rol so e1 ha
      exact seq rfl (.inl (by rw [← hK]; exact h1)) h2 h
    · rename_i kvs e1
      obtain ⟨ks, h1, h2⟩ := cell_dic so e1 ha
      split at h
      · rename_i k0 hk0
        simp only [Option.some.injEq] at h
        rw [find_isSome k0 h2] at h
        obtain rfl := key_V rd hk0
        obtain rfl : u = Value.ref a := ry
        cases neg with
        | false => exact d_in (by omega) I (.k h1) rx fun s' I' => ⟨.bl _, H, I', rfl, by rw [h]; exact q⟩
        | true => exact d_notIn (by omega) I (.k h1) rx fun s' I' => ⟨.bl _, H, I', rfl, by rw [h]; exact q⟩
      · cases h
    · cases h
  | _ => cases h
theorem op_cmp (hK : G.k.K = X.K) (hu : X.A.units + 64 < cLine) (op : CmpOp) : OpR X (compareOp op) (rCmp G op) := by
  intro pins s σ H x y v u Q I rx ry ⟨W, st, d, e, k, so, rd, re, h, q⟩
  have eqs : ∀ {b : Bool}, eqP d e st = some b → ∃ p1 p2 as bs, Reads s.heap v p1 as ∧ Reads s.heap u p2 bs ∧ SeqAt.shaped p1 = true ∧ SeqAt.shaped p2 = true ∧ PyData.eqv p1 p2 = b := by
    intro b hb
    unfold eqP at hb
    split at hb
    · rename_i p1 p2 e1 e2
      split at hb
      · rename_i hp
        simp only [Option.some.injEq] at hb
        obtain ⟨as, r1, _⟩ := toP_reads I hK so rd rx e1
        obtain ⟨bs, r2, _⟩ := toP_reads I hK so re ry e2
        rw [Bool.and_eq_true] at hp
        exact ⟨p1, p2, as, bs, r1, r2, hp.1, hp.2, hb⟩
      · cases hb
    · cases hb
  cases op with
  | Eq =>
    simp only [cmpD, eqD] at h
    split at h
    · cases rd; cases re
      cases h
      exact op_eq pins s σ H _ _ v u Q I rx ry ⟨rfl, by simpa using q⟩
    obtain ⟨p1, p2, as, bs, r1, r2, s1, s2, hb⟩ := eqs h
    exact SeqAt.compareEq_shaped r1 r2 s1 s2 hu ⟨.bl _, H, I, rfl, by rw [hb]; exact q⟩
  | NotEq =>
    simp only [cmpD, eqD] at h
    split at h
    · cases rd; cases re
      cases h
      exact op_ne pins s σ H _ _ v u Q I rx ry ⟨rfl, by simpa using q⟩
    cases e1 : eqP d e st with
    | none => rw [e1] at h; cases h
    | some b =>
      rw [e1] at h
      simp only [Option.map_some, Option.some.injEq] at h
      obtain ⟨p1, p2, as, bs, r1, r2, s1, s2, hb⟩ := eqs e1
      exact SeqAt.compareNe_shaped r1 r2 s1 s2 hu ⟨.bl _, H, I, rfl, by rw [hb, h]; exact q⟩
  | Lt =>
    cases rd <;> cases re <;> simp [cmpD] at h
    exact op_lt pins s σ H _ _ v u Q I rx ry ⟨_, _, rfl, rfl, by dsimp only; rw [h]; exact q⟩
  | LtE =>
    cases rd <;> cases re <;> simp [cmpD] at h
    exact op_le pins s σ H _ _ v u Q I rx ry ⟨_, _, rfl, rfl, by dsimp only; rw [h]; exact q⟩
  | Gt =>
    cases rd <;> cases re <;> simp [cmpD] at h
    exact op_gt pins s σ H _ _ v u Q I rx ry ⟨_, _, rfl, rfl, by dsimp only; rw [h]; exact q⟩
  | GtE =>
    cases rd <;> cases re <;> simp [cmpD] at h
    exact op_ge pins s σ H _ _ v u Q I rx ry ⟨_, _, rfl, rfl, by dsimp only; rw [h]; exact q⟩
  | Is =>
    cases re with
    | non =>
      refine op_isN pins s σ H _ _ v u Q I rx ry ⟨rfl, ?_⟩
      have : decide (x = .non) = k := by cases rd <;> simp [cmpD] at h <;> subst h <;> rfl
      rw [this]; exact q
    | _ => cases rd <;> simp [cmpD] at h
  | IsNot =>
    cases re with
    | non =>
      refine op_notN pins s σ H _ _ v u Q I rx ry ⟨rfl, ?_⟩
      have : (!decide (x = .non)) = k := by cases rd <;> simp [cmpD] at h <;> subst h <;> rfl
      rw [this]; exact q
    | _ => cases rd <;> simp [cmpD] at h
  | In => exact in_ok (neg := false) hK hu I rx ry so rd re h q
  | NotIn =>
    simp only [cmpD] at h
    cases e1 : inD d e st with
    | none => rw [e1] at h; cases h
    | some b =>
      rw [e1] at h
      simp only [Option.map_some, Option.some.injEq] at h
      exact in_ok (neg := true) hK hu I rx ry so rd re e1 (by rw [← h] at q; exact q)
end MM
end

section
set_option Elab.async false
set_option linter.all false
set_option maxRecDepth 100000
set_option maxHeartbeats 4000000
/-! MMOps3: items, slices, stores, built-in functions and methods keep the relation. -/
namespace MM
open PySem L2 PyProof.Rows
variable {G : Gam} {X : Cx}
/-! ### items -/
theorem ixOf_eq {n : Nat} {i : Int} : ixOf n i = L2.ixN n i := by
  unfold ixOf L2.ixN
  by_cases h : 0 ≤ i
  · rw [if_pos h, if_pos h]
  · rw [if_neg h, if_neg h]
    by_cases h2 : 0 ≤ i + (n : Int)
    · rw [if_pos h2, if_pos (by omega)]
    · rw [if_neg h2, if_neg (by omega)]
theorem at_V {K : Kl} {W : List Addr} {H : Hp} {xs : List D} {vs : List V} {k : Int} {d : D} (r : Reps K W H xs vs) (h : ((ixOf xs.length k).bind fun j => xs[j]?) = some d) : ∃ v, atI vs k = some v ∧ Rep K W H d v := by
  rw [ixOf_eq, r.length] at h
  unfold atI
  cases e : L2.ixN vs.length k with
  | none => rw [e] at h; cases h
  | some j =>
    rw [e] at h
    have h : xs[j]? = some d := h
    obtain ⟨v, h1, h2⟩ := r.get h
    exact ⟨v, h1, h2⟩
def rIdx (G : Gam) : R2 := fun x y H Q => ∃ W st d e z, StOk G W st H ∧ Rep G.k W H d x ∧ Rep G.k W H e y ∧ idxD d e st = some z ∧ ∀ v, Rep G.k W H z v → Q v H
theorem ix_dic (hu : X.A.units + 64 < cLine) {value slice : Expr} {pins : List (Addr × Obj)} {s : Shared} {σ : L2.St} {H : Hp} {a : Addr} {ks : List (Key × V)} {k : Key} {w : V} {u : Value} {Q : VK} (I : Inv X pins σ H s) (ru : RelV (kV k) u) (h : H a = some (.dK ks)) (hv : valV ks k = some w)
    (hs : subscripted slice false (.ref a) u = operate [.ref a, u] (getItem (.ref a) u)) (q : Q w H) : wpAny (model X.prog X.w) X.A (subscriptTail value slice (.ref a) u) (EP X pins σ Q) X.xe s := by
  have g : DGet H a (kV k) (some w) := by rw [← hv]; exact .k h
  have hT := dict_typeIs I g
  unfold subscriptTail
  refine wpAny_bind ?_
  rw [getitemInPython_of_ne hT.not_modules]
  refine wpAny_bind (wpAny_specialOf hT PySem.F.slot_dict_getitem.lookup ?_)
  have fin : wpAny (model X.prog X.w) X.A (subscripted slice false (.ref a) u) (fun r s₃ => wpAny (model X.prog X.w) X.A (letTemporaryGo value (.ref a) r >>= fun _ => pure r) (EP X pins σ Q) X.xe s₃) X.xe s := by
    rw [hs]
    exact wpAny_operating (d_getItem (by omega) I g ru fun w' s3 I3 rw' => wpAny_bind (wpAny_letTemporaryGo (wpAny_pure ⟨w, H, I3, rw', q⟩)))
  first
    | exact wpAny_pure (wpAny_bind fin)
    | exact wpAny_bind (wpAny_pure (wpAny_bind fin))
    | exact wpAny_bind fin
theorem ix_ok (hK : G.k.K = X.K) (hu : X.A.units + 64 < cLine) : IxR X (rIdx G) := by
  intro value slice pins s σ H x y v u Q I rx ry ⟨W, st, d, e, z, so, rd, re, h, q⟩ hs
  cases rd with
  | str t =>
    cases re with
    | int k =>
      simp only [idxD] at h
      split at h
      · rename_i hz
        cases e1 : (ixOf t.cps.toList.length k).bind fun j => t.cps.toList[j]? with
        | none => rw [e1] at h; cases h
        | some c =>
          rw [e1] at h
          simp only [Option.map_some, Option.some.injEq] at h
          subst h
          refine ix_str value slice pins s σ H _ _ v u Q I rx ry ⟨t, k, c, rfl, rfl, by rw [← big_eq]; exact hz, ?_, q _ (.str _)⟩ hs
          unfold atI
          rw [← ixOf_eq]
          exact e1
      · cases h
    | _ => cases h
  | @tup a vs xs ha hr =>
    cases re with
    | int k =>
      simp only [idxD] at h
      obtain ⟨w, h1, h2⟩ := at_V hr h
      exact ix_tup value slice pins s σ H _ _ v u Q I rx ry ⟨a, vs, k, w, rfl, rfl, by rw [← hK]; exact ha, h1, q _ h2⟩ hs
    | _ => cases h
  | @fl a o vs xs ha hr =>
    cases re with
    | int k =>
      simp only [idxD] at h
      obtain ⟨w, h1, h2⟩ := at_V hr h
      exact ix_list value slice pins s σ H _ _ v u Q I rx ry ⟨a, vs, k, w, rfl, rfl, .inl (.inr ⟨_, ha⟩), h1, q _ h2⟩ hs
    | _ => cases h
  | @loc n a ha =>
    cases re with
    | int k =>
      simp only [idxD] at h
      split at h
      · rename_i e1
        obtain ⟨vs, h1, hr⟩ := cell_lst so e1 ha
        obtain ⟨w, h2, h3⟩ := at_V hr h
        exact ix_list value slice pins s σ H _ _ v u Q I rx ry ⟨a, vs, k, w, rfl, rfl, SqL.of h1, h2, q _ h3⟩ hs
      · rename_i e1
        obtain ⟨vs, h1, hr⟩ := cell_rol so e1 ha
        obtain ⟨w, h2, h3⟩ := at_V hr h
        exact ix_list value slice pins s σ H _ _ v u Q I rx ry ⟨a, vs, k, w, rfl, rfl, by rw [← hK]; exact h1, h2, q _ h3⟩ hs
      · rename_i e1
        obtain ⟨ks, h1, h2⟩ := cell_dic so e1 ha
        rcases find_V (.inl k) h2 with ⟨a1, _⟩ | ⟨d', v', a1, b1, c1⟩
        · rw [a1] at h; cases h
        · rw [a1] at h; cases h
          obtain rfl : v = Value.ref a := rx
          exact ix_dic (k := .inl k) hu I ry h1 b1 hs (q _ c1)
      · cases h
    | str t =>
      simp only [idxD] at h
      split at h
      · rename_i e1
        obtain ⟨ks, h1, h2⟩ := cell_dic so e1 ha
        rcases find_V (.inr t) h2 with ⟨a1, _⟩ | ⟨d', v', a1, b1, c1⟩
        · rw [a1] at h; cases h
        · rw [a1] at h; cases h
          obtain rfl : v = Value.ref a := rx
          exact ix_dic (k := .inr t) hu I ry h1 b1 hs (q _ c1)
      · cases h
    | _ => cases h
  | _ => cases h
/-! ### slices -/
theorem sIx_eq (n d : Nat) (o : Option Int) : sIxD n d o = HT.sIx n d o := by cases o <;> rfl
theorem cut_V {K : Kl} {W : List Addr} {H : Hp} {xs : List D} {vs : List V} (r : Reps K W H xs vs) (lo hi : Option Int) : Reps K W H (cutD xs lo hi) (cutV vs lo hi) := by
  unfold cutD cutV
  rw [sIx_eq, sIx_eq, r.length]
  exact (r.drop _).take _
def rSl (G : Gam) : V → Option Int → Option Int → Hp → VK → Prop := fun x lo hi H Q => ∃ W st d l h, StOk G W st H ∧ Rep G.k W H d x ∧ partD l = some lo ∧ partD h = some hi ∧ Out G W H (slD d l h st) Q
theorem sl_ok (hK : G.k.K = X.K) : SlR X (rSl G) := by
  intro pins s σ H x v vl vu lo hi sl Q I rx hs pl pu ⟨W, st, d, l, hh, so, rd, h1, h2, h⟩
  unfold slD at h
  rw [h1, h2] at h
  dsimp only at h
  cases rd with
  | str z =>
    dsimp only at h
    split at h
    · rename_i hz
      refine sl_str pins s σ H _ v vl vu lo hi sl Q I rx hs pl pu ⟨z, rfl, by rw [← big_eq]; exact hz, ?_⟩
      have : (⟨(cutD z.cps.toList lo hi).toArray⟩ : Str) = cutS z lo hi := by
        unfold cutD cutS
        rw [sIx_eq, sIx_eq]
        rfl
      rw [this] at h
      exact h.same so (.str _)
    · exact False.elim h
  | @tup a vs xs ha hr =>
    dsimp only at h
    refine sl_tupA pins s σ H _ v vl vu lo hi sl Q I rx hs pl pu ⟨a, vs, rfl, by rw [← hK]; exact ha, fun hw => ?_, fun _ p hp => h.newT so (cut_V hr lo hi) hp⟩
    have e : cutD xs lo hi = xs := by
      unfold cutD
      rw [sIx_eq, sIx_eq, hr.length, hw.1, hw.2, List.drop_zero, Nat.sub_zero, ← hr.length, List.take_length]
    rw [e] at h
    exact h.same so (.tup ha hr)
  | @fl a o vs xs ha hr =>
    dsimp only at h
    exact sl_list pins s σ H _ v vl vu lo hi sl Q I rx hs pl pu ⟨a, vs, rfl, .inl (.inr ⟨_, ha⟩), fun p hp => h.newL so (cut_V hr lo hi) hp⟩
  | @loc n a ha =>
    dsimp only at h
    split at h
    · rename_i e1
      obtain ⟨vs, g1, hr⟩ := cell_lst so e1 ha
      exact sl_list pins s σ H _ v vl vu lo hi sl Q I rx hs pl pu ⟨a, vs, rfl, SqL.of g1, fun p hp => h.newL so (cut_V hr lo hi) hp⟩
    · rename_i e1
      obtain ⟨vs, g1, hr⟩ := cell_rol so e1 ha
      exact sl_list pins s σ H _ v vl vu lo hi sl Q I rx hs pl pu ⟨a, vs, rfl, by rw [← hK]; exact g1, fun p hp => h.newL so (cut_V hr lo hi) hp⟩
    · exact False.elim h
  | _ => exact False.elim h
/-! ### stores to a place -/
def OutS (G : Gam) (W : List Addr) (H : Hp) (r : Option Store) (Q : Hp → Prop) : Prop :=
  match r with
  | some st' => ∀ H', Ext W H W H' → StOk G W st' H' → Q H'
  | none => False
def rSet (G : Gam) : V → V → V → Hp → (Hp → Prop) → Prop := fun o i v H Q => ∃ W st x y d, StOk G W st H ∧ Rep G.k W H x o ∧ Rep G.k W H y i ∧ Rep G.k W H d v ∧ OutS G W H (setD x y d st) Q
theorem putMap_V {K : Kl} {W : List Addr} {H : Hp} {k : Key} {d : D} {v : V} (r : Rep K W H d v) {kvs : List (D × D)} {ks : List (Key × V)} (h : DicR K W H kvs ks) :
    DicR K W H (kvs.map (fun p => if keyD p.1 = some k then (p.1, d) else p)) (ks.map (fun kv => if kv.1 = k then (kv.1, v) else kv)) := by
  induction h with
  | nil => exact .nil
  | @cons p q l1 l2 h0 t ih =>
    rw [List.map_cons, List.map_cons]
    refine .cons ?_ ih
    by_cases e : q.1 = k
    · rw [if_pos (by rw [h0.1, e]), if_pos e]
      exact ⟨h0.1, r⟩
    · rw [if_neg (by rw [h0.1]; simpa using e), if_neg e]
      exact h0
theorem DicR.append {K : Kl} {W : List Addr} {H : Hp} {l1 l1' : List (D × D)} {l2 l2' : List (Key × V)} (a : DicR K W H l1 l2) (b : DicR K W H l1' l2') : DicR K W H (l1 ++ l1') (l2 ++ l2') := by
  induction a with
  | nil => exact b
  | cons h0 _ ih => exact .cons h0 ih
theorem DicR.length {K : Kl} {W : List Addr} {H : Hp} {l1 : List (D × D)} {l2 : List (Key × V)} (a : DicR K W H l1 l2) : l1.length = l2.length := by
  induction a with
  | nil => rfl
  | cons _ _ ih => rw [List.length_cons, List.length_cons, ih]
theorem put_V {K : Kl} {W : List Addr} {H : Hp} {k : Key} {d : D} {v : V} (r : Rep K W H d v) {kvs : List (D × D)} {ks : List (Key × V)} (h : DicR K W H kvs ks) : DicR K W H (putK k d kvs) (L2.putK ks k v) := by
  unfold putK L2.putK
  rw [find_isSome k h, valV_any]
  split
  · exact putMap_V r h
  · refine h.append (.cons ⟨?_, r⟩ .nil)
    cases k <;> rfl
theorem set_ok (hu : X.A.units + 64 < cLine) : PSet X (rSet G) := by
  intro pins s σ H o i v ov iv u Q I ro ri rv ⟨W, st, x, y, d, so, rx, ry, rd, h⟩
  cases rx with
  | @loc n a ha =>
    unfold setD at h
    dsimp only at h
    split at h
    · rename_i xs e1
      cases ry with
      | int k =>
        dsimp only at h
        split at h
        · rename_i j hj
          obtain ⟨vs, h1, hr⟩ := cell_lst so e1 ha
          rw [ixOf_eq, hr.length] at hj
          refine set_list pins s σ H _ _ v ov iv u Q I ro ri rv ⟨a, vs, k, j, rfl, rfl, h1, hj, ?_⟩
          obtain ⟨ex, so'⟩ := so.write (c' := .lst (xs.set j d)) (o := .lst (vs.set j v)) e1 ha rfl rfl fun ex => ⟨_, upd_same, (hr.set rd j).ext ex⟩
          exact h _ ex so'
        · exact False.elim h
      | _ => exact False.elim h
    · rename_i kvs e1
      split at h
      · rename_i k hk
        split at h
        · rename_i hz
          obtain ⟨ks, h1, h2⟩ := cell_dic so e1 ha
          obtain rfl := key_V ry hk
          obtain rfl : ov = Value.ref a := ro
          have hl : kvs.length = ks.length := h2.length
          refine d_setItem (by omega) I (.inl ⟨ks, k, h1, rfl, by rw [← big_eq, ← hl]; exact hz, rfl⟩) ri rv fun s' I' => ⟨_, I', ?_⟩
          obtain ⟨ex, so'⟩ := so.write (c' := .dic (putK k d kvs)) (o := .dK (L2.putK ks k v)) e1 ha rfl rfl fun ex => ⟨_, upd_same, (put_V rd h2).imp fun _ _ r => r.ext ex⟩
          exact h _ ex so'
        · exact False.elim h
      · exact False.elim h
    · exact False.elim h
  | _ => exact False.elim h
end MM
end

section
set_option Elab.async false
set_option linter.all false
set_option maxRecDepth 100000
set_option maxHeartbeats 4000000
/-! MMOps4: built-in functions and methods keep the relation. -/
namespace MM
open PySem L2 PyProof.Rows
variable {G : Gam} {X : Cx}
/-- the built-in's value, the name by which it is called -/
def bfVal : Bf → Value
  | .bint => .type "int" | .bstr => .type "str" | .blen => .builtin "len" | .blist => .type "list" | .btuple => .type "tuple" | .babs => .builtin "abs" | .ball => .builtin "all" | .bany => .builtin "any"
  | .brepr => .builtin "repr" | .bgcd => .builtin "math.gcd" | .bsum => .builtin "sum" | .bmin => .builtin "min" | .bmax => .builtin "max"
def bfName : Bf → Str
  | .bint => "int" | .bstr => "str" | .blen => "len" | .blist => "list" | .btuple => "tuple" | .babs => "abs" | .ball => "all" | .bany => "any"
  | .brepr => "repr" | .bgcd => "gcd" | .bsum => "sum" | .bmin => "min" | .bmax => "max"
def rBlt (G : Gam) (b : Bf) : List V → Hp → VK → Prop := fun vs H Q => ∃ W st ds, StOk G W st H ∧ Reps G.k W H ds vs ∧ Out G W H (bltD b ds st) Q
theorem bools_V {K : Kl} {W : List Addr} {H : Hp} : ∀ {ds : List D} {vs : List V} {bs : List Bool}, Reps K W H ds vs → boolsOf ds = some bs → vs = bs.map V.bl
  | _, _, _, .nil, h => by simp [boolsOf] at h; subst h; rfl
  | _, _, _, .cons r t, h => by
    cases r with
    | bl b =>
      simp only [boolsOf] at h
      cases e : boolsOf _ with
      | none => rw [e] at h; cases h
      | some bs =>
        rw [e] at h
        simp only [Option.map_some, Option.some.injEq] at h
        subst h
        rw [List.map_cons, bools_V t e]
    | _ => simp [boolsOf] at h
theorem ints_V {K : Kl} {W : List Addr} {H : Hp} : ∀ {ds : List D} {vs : List V} {bs : List Int}, Reps K W H ds vs → intsOf ds = some bs → vs = bs.map V.int
  | _, _, _, .nil, h => by simp [intsOf] at h; subst h; rfl
  | _, _, _, .cons r t, h => by
    cases r with
    | int b =>
      simp only [intsOf] at h
      cases e : intsOf _ with
      | none => rw [e] at h; cases h
      | some bs =>
        rw [e] at h
        simp only [Option.map_some, Option.some.injEq] at h
        subst h
        rw [List.map_cons, ints_V t e]
    | _ => simp [intsOf] at h
theorem reps1 {K : Kl} {W : List Addr} {H : Hp} {d : D} {vs : List V} (r : Reps K W H [d] vs) : ∃ v, vs = [v] ∧ Rep K W H d v := by
  cases r with
  | cons r t => cases t; exact ⟨_, rfl, r⟩
theorem reps2 {K : Kl} {W : List Addr} {H : Hp} {d e : D} {vs : List V} (r : Reps K W H [d, e] vs) : ∃ v w, vs = [v, w] ∧ Rep K W H d v ∧ Rep K W H e w := by
  cases r with
  | cons r t =>
    cases t with
    | cons r' t' => cases t'; exact ⟨_, _, rfl, r, r'⟩
theorem noLp_split : ∀ {kvs : List (PyData × PyData)}, noLp kvs = true → noLs (kvs.map (·.1)) = true ∧ noLs (kvs.map (·.2)) = true
  | [], _ => ⟨rfl, rfl⟩
  | (k, v) :: r, hn => by
    simp only [noLp, Bool.and_eq_true] at hn
    have ih := noLp_split hn.2
    simp only [List.map_cons, noLs, Bool.and_eq_true]
    exact ⟨⟨hn.1.1, ih.1⟩, hn.1.2, ih.2⟩
mutual
theorem reads_noL {h : Heap} : ∀ {v : Value} {p : PyData} {as : List Addr}, Reads h v p as → noL p = true → ∀ b ∈ as, ∃ o, h.get? b = some o ∧ o.cls = .type "dict"
  | _, _, _, .none, _, _, hb => (nomatch hb)
  | _, _, _, .bool _, _, _, hb => (nomatch hb)
  | _, _, _, .int _ _, _, _, hb => (nomatch hb)
  | _, _, _, .str _ _, _, _, hb => (nomatch hb)
  | _, _, _, .list _ _ _ _, hn, _, _ => by simp [noL] at hn
  | _, _, _, .tuple _ _ _ r, hn, b, hb => reads_noLs r (by simpa only [noL] using hn) b hb
  | _, _, _, .dict (kvs := kvs) h1 h2 _ r1 r2, hn, b, hb => by
    have hn : noLp kvs = true := by simpa only [noL] using hn
    have hk := noLp_split hn
    rcases List.mem_cons.mp hb with rfl | hb
    · exact ⟨_, h1, h2⟩
    · rcases List.mem_append.mp hb with hb | hb
      · exact reads_noLs r1 hk.1 b hb
      · exact reads_noLs r2 hk.2 b hb
theorem reads_noLs {h : Heap} : ∀ {vs : List Value} {ps : List PyData} {as : List Addr}, ReadsAll h vs ps as → noLs ps = true → ∀ b ∈ as, ∃ o, h.get? b = some o ∧ o.cls = .type "dict"
  | _, _, _, .nil, _, _, hb => (nomatch hb)
  | _, _, _, .cons r1 r2, hn, b, hb => by
    simp only [noLs, Bool.and_eq_true] at hn
    rcases List.mem_append.mp hb with hb | hb
    · exact reads_noL r1 hn.1 b hb
    · exact reads_noLs r2 hn.2 b hb
end
theorem repr_ok (hK : G.k.K = X.K) (hu : X.A.units + 128 < cLine) (hg : X.A.guards = some []) {pins : List (Addr × Obj)} {s : Shared} {σ : L2.St} {H : Hp} {W : List Addr} {st : Store} {d : D} {v : V} {u : Value} {p : PyData} {Q : VK} (I : Inv X pins σ H s) (so : StOk G W st H)
    (r : Rep G.k W H d v) (ru : RelV v u) (h : toP st d = some p) (h1 : p.showable = true) (h2 : p.shown.length ≤ sizeLine) (h3 : p.depth ≤ 64) (q : Q (.str p.shown) H) (hsys : p.hasDict = true → noL p = true) :
    wpAny (model X.prog X.w) X.A (call (.builtin "repr") [u]) (EP X pins σ Q) X.xe s := by
  have fin : ∀ tk t, EP X pins σ Q (.str p.shown t) { s with toks := tk } := fun tk t => ⟨.str p.shown, H, I.tok tk, ⟨t, rfl⟩, q⟩
  have nosys : ∀ {as : List Addr}, Reads s.heap u p as → NotSys s as → p.hasDict = true → sysModules ∉ as := fun {as} rd ns hd hm => by
    obtain ⟨o, ho, hc⟩ := reads_noL rd (hsys hd) _ hm
    rcases ns _ hm with ⟨o', ho', hc'⟩ | e
    · rw [ho] at ho'
      cases ho'
      rw [hc] at hc'
      exact absurd hc' (by decide)
    · simp at e
  cases r with
  | non =>
    cases ru
    simp [toP, toPw] at h; subst h
    exact PySem.P.repr_of_none (by simpa only [PyData.shown] using fin _ _)
  | bl b =>
    cases ru
    simp [toP, toPw] at h; subst h
    exact PySem.P.repr_of_bool (by simpa only [PyData.shown] using fin _ _)
  | int i =>
    obtain ⟨t, rfl⟩ := ru
    simp [toP, toPw] at h; subst h
    exact PySem.P.repr_of_int (by simpa only [PyData.showable, decide_eq_true_eq] using h1) (by simpa only [PyData.shown] using fin _ _)
  | str x =>
    obtain ⟨t, rfl⟩ := ru
    simp [toP, toPw] at h; subst h
    exact PySem.P.repr_of_str (by simpa only [PyData.shown] using fin _ _) (by simpa only [PyData.shown] using h2)
  | tup hq hr =>
    cases ru
    obtain ⟨as, rd, ns⟩ := toP_reads I hK so (.tup hq hr) rfl h
    refine PySem.repr_of_reads' rd h1 (nosys rd ns) hg (by omega) (fun _ _ e => e) (fun h' u' tk hk => ⟨.str p.shown, H, I.kept hk, ⟨u', rfl⟩, q⟩) h2
  | loc ha =>
    cases ru
    obtain ⟨as, rd, ns⟩ := toP_reads I hK so (.loc ha) rfl h
    refine PySem.repr_of_reads' rd h1 (nosys rd ns) hg (by omega) (fun _ _ e => e) (fun h' u' tk hk => ⟨.str p.shown, H, I.kept hk, ⟨u', rfl⟩, q⟩) h2
  | fl hq hr =>
    cases ru
    obtain ⟨as, rd, ns⟩ := toP_reads I hK so (.fl hq hr) rfl h
    refine PySem.repr_of_reads' rd h1 (nosys rd ns) hg (by omega) (fun _ _ e => e) (fun h' u' tk hk => ⟨.str p.shown, H, I.kept hk, ⟨u', rfl⟩, q⟩) h2
  | obj => simp [toP, toPw] at h
/-- what stands around: room for built-ins, nothing handled -/
structure Calm (G : Gam) (X : Cx) : Prop where
  K : G.k.K = X.K
  un : X.A.units + 128 < cLine
  gd : X.A.guards = some []
/-- what may be called in an except suite -/
def hotB : Bf → Bool | .ball => false | .bany => false | .bsum => false | .bmin => false | .bmax => false | _ => true
theorem blt_ok (c : Calm G X) (b : Bf) (hc : hotB b = true ∨ X.calm = true) : CallR X (bfVal b) (rBlt G b) := by
  intro pins s σ H vs us Q I ru ⟨W, st, ds, so, rd, h⟩
  have hK := c.K
  unfold bltD at h
  split at h
  · -- int(int)
    obtain ⟨v, rfl, r⟩ := reps1 rd
    cases r
    exact call_int1 pins s σ H _ us Q I ru (.inl ⟨_, rfl, h.same so (.int _)⟩)
  · obtain ⟨v, rfl, r⟩ := reps1 rd
    cases r
    exact call_int1 pins s σ H _ us Q I ru (.inr ⟨_, rfl, h.same so (.int _)⟩)
  · obtain ⟨v, rfl, r⟩ := reps1 rd
    cases r
    split at h
    · rename_i n hn
      split at h
      · rename_i hz
        exact call_int_str pins s σ H _ us Q I ru ⟨_, n, rfl, hn, hz, h.same so (.int _)⟩
      · exact False.elim h
    · exact False.elim h
  · obtain ⟨v, rfl, r⟩ := reps1 rd
    cases r
    split at h
    · rename_i hz
      exact call_str_int pins s σ H _ us Q I ru ⟨_, rfl, hz, h.same so (.str _)⟩
    · exact False.elim h
  · -- len
    rename_i d
    obtain ⟨v, rfl, r⟩ := reps1 rd
    split at h
    · rename_i n hn
      have q := h.same so (.int _)
      cases r with
      | str x =>
        simp only [lenD] at hn
        split at hn
        · rename_i hz
          cases hn
          exact call_len pins s σ H _ us Q I ru ⟨_, _, rfl, ⟨by rw [← big_eq]; exact hz, rfl⟩, q⟩
        · cases hn
      | @tup a vs xs ha hr =>
        simp only [lenD, Option.some.injEq] at hn
        exact call_len pins s σ H _ us Q I ru ⟨_, _, rfl, .inr ⟨vs, by rw [← hK]; exact ha, by rw [← hn, hr.length]⟩, q⟩
      | @fl a o vs xs ha hr =>
        simp only [lenD, Option.some.injEq] at hn
        exact call_len pins s σ H _ us Q I ru ⟨_, _, rfl, .inl ⟨vs, .inl (.inr ⟨_, ha⟩), by rw [← hn, hr.length]⟩, q⟩
      | @loc m a ha =>
        simp only [lenD] at hn
        split at hn
        · rename_i e1
          cases hn
          obtain ⟨vs, h1, hr⟩ := cell_lst so e1 ha
          exact call_len pins s σ H _ us Q I ru ⟨_, _, rfl, .inl ⟨vs, SqL.of h1, hr.length⟩, q⟩
        · rename_i e1
          cases hn
          obtain ⟨vs, h1, hr⟩ := cell_rol so e1 ha
          exact call_len pins s σ H _ us Q I ru ⟨_, _, rfl, .inl ⟨vs, by rw [← hK]; exact h1, hr.length⟩, q⟩
        · rename_i e1
          cases hn
          obtain ⟨ks, h1, hr⟩ := cell_dic so e1 ha
          obtain ⟨u, rfl, r1⟩ := vals1 ru
          obtain rfl : u = Value.ref a := r1
          rw [hr.length] at q
          exact d_len I (.inl h1) fun t s' I' => ⟨.int _, H, I', ⟨t, rfl⟩, q⟩
        · cases hn
      | _ => simp [lenD] at hn
    · exact False.elim h
  · -- list
    rename_i d
    obtain ⟨v, rfl, r⟩ := reps1 rd
    split at h
    · rename_i xs hx
      obtain ⟨a, vs, rfl, hr, hs⟩ := items_ok so r hx
      refine call_list_of pins s σ H _ us Q I ru ⟨a, vs, rfl, ?_, fun l hl => h.newL so hr hl⟩
      rcases hs with hs | ⟨hs, _⟩
      · exact .inl (by rw [← hK]; exact hs)
      · exact .inr (by rw [← hK]; exact hs)
    · exact False.elim h
  · -- tuple
    rename_i d
    obtain ⟨v, rfl, r⟩ := reps1 rd
    split at h
    · rename_i xs hx
      obtain ⟨a, vs, rfl, hr, hs⟩ := items_ok so r hx
      refine call_tuple_of pins s σ H _ us Q I ru ⟨a, vs, rfl, ?_⟩
      rcases hs with hs | ⟨hs, rfl⟩
      · exact .inl ⟨by rw [← hK]; exact hs, fun l hl => h.newT so hr hl⟩
      · exact .inr ⟨by rw [← hK]; exact hs, h.same so (.tup hs hr)⟩
    · exact False.elim h
  · obtain ⟨v, rfl, r⟩ := reps1 rd
    cases r
    exact call_abs pins s σ H _ us Q I ru ⟨_, rfl, h.same so (.int _)⟩
  · -- all
    obtain ⟨v, rfl, r⟩ := reps1 rd
    split at h
    · rename_i xs e1
      split at h
      · rename_i bs hb
        obtain ⟨a, vs, rfl, h1, hr⟩ := lst_ok so r e1
        obtain rfl := bools_V hr hb
        exact cr_all (hc.resolve_left (by decide)) pins s σ H _ us Q I ru ⟨a, bs, rfl, .inl h1, h.same so (.bl _)⟩
      · exact False.elim h
    · exact False.elim h
  · -- any
    obtain ⟨v, rfl, r⟩ := reps1 rd
    split at h
    · rename_i xs e1
      split at h
      · rename_i bs hb
        obtain ⟨a, vs, rfl, h1, hr⟩ := lst_ok so r e1
        obtain rfl := bools_V hr hb
        exact cr_any (hc.resolve_left (by decide)) pins s σ H _ us Q I ru ⟨a, bs, rfl, .inl h1, h.same so (.bl _)⟩
      · exact False.elim h
    · exact False.elim h
  · -- repr
    rename_i d
    obtain ⟨v, rfl, r⟩ := reps1 rd
    obtain ⟨u, rfl, r1⟩ := vals1 ru
    split at h
    · rename_i p hp
      split at h
      · rename_i hz
        simp only [Bool.and_eq_true, decide_eq_true_eq] at hz
        exact repr_ok hK c.un c.gd I so r r1 hp hz.1.1.1 (by rw [← big_eq]; exact hz.1.1.2) hz.1.2 (h.same so (.str _)) fun hd => by simpa [hd] using hz.2
      · exact False.elim h
    · exact False.elim h
  · -- gcd
    obtain ⟨v, w, rfl, r, r'⟩ := reps2 rd
    cases r
    cases r'
    exact cr_gcd pins s σ H _ us Q I ru ⟨_, _, rfl, h.same so (.int _)⟩
  · -- sum
    obtain ⟨v, rfl, r⟩ := reps1 rd
    split at h
    · rename_i xs e1
      split at h
      · rename_i bs hb
        obtain ⟨a, vs, rfl, h1, hr⟩ := lst_ok so r e1
        obtain rfl := ints_V hr hb
        exact cr_sum (hc.resolve_left (by decide)) pins s σ H _ us Q I ru ⟨a, bs, rfl, .inl h1, h.same so (.int _)⟩
      · exact False.elim h
    · exact False.elim h
  · -- min
    obtain ⟨v, w, rfl, r, r'⟩ := reps2 rd
    cases r
    cases r'
    exact call_min2 (hc.resolve_left (by decide)) pins s σ H _ us Q I ru ⟨_, _, rfl, h.same so (.int _)⟩
  · -- max
    obtain ⟨v, w, rfl, r, r'⟩ := reps2 rd
    cases r
    cases r'
    exact call_max2 (hc.resolve_left (by decide)) pins s σ H _ us Q I ru ⟨_, _, rfl, h.same so (.int _)⟩
  · exact False.elim h
end MM
end

section
set_option Elab.async false
set_option linter.all false
set_option maxRecDepth 100000
set_option maxHeartbeats 4000000
/-! MMOps5: methods of built-in types, isinstance, parts of f-strings. -/
namespace MM
open PySem L2 PyProof.Rows
variable {G : Gam} {X : Cx}
def mtT : Mt → String
  | .append => "list" | .extend => "list" | .pop => "list" | .popAt => "list" | .split => "str" | .removeprefix => "str" | .startswith => "str" | .join => "str" | .get1 => "dict" | .get2 => "dict" | .listClear => "list"
def mtN : Mt → Str
  | .append => "append" | .extend => "extend" | .pop => "pop" | .popAt => "pop" | .split => "split" | .removeprefix => "removeprefix" | .startswith => "startswith" | .join => "join" | .get1 => "get" | .get2 => "get" | .listClear => "clear"
def mtI : Mt → String
  | .append => "list.append" | .extend => "list.extend" | .pop => "list.pop" | .popAt => "list.pop" | .split => "str.split" | .removeprefix => "str.removeprefix" | .startswith => "str.startswith" | .join => "str.join" | .get1 => "dict.get" | .get2 => "dict.get" | .listClear => "list.clear"
theorem mt_pa (m : Mt) : PlainAttrs (mtT m) := by
  cases m <;> first | exact PySem.F.plainAttrs_list | exact PySem.F.plainAttrs_str | exact PySem.F.plainAttrs_dict
theorem mt_slot (m : Mt) : Slot (mtT m) (mtN m) (mtI m) := by
  cases m
  · exact PySem.F.slot_list_append
  · exact PySem.F.slot_list_extend
  · exact PySem.F.slot_list_pop
  · exact PySem.F.slot_list_pop
  · exact PySem.F.slot_str_split
  · exact PySem.F.slot_str_removeprefix
  · exact PySem.F.slot_str_startswith
  · exact PySem.F.slot_str_join
  · exact PySem.F.slot_dict_get
  · exact PySem.F.slot_dict_get
  · exact PySem.F.slot_list_clear
theorem mt_ty (m : Mt) : typeOf (.builtin (mtI m)) = pure (.type "method_descriptor") := by
  cases m
  · exact PySem.F.type_list_append
  · exact PySem.F.type_list_extend
  · exact PySem.F.type_list_pop
  · exact PySem.F.type_list_pop
  · exact PySem.F.type_str_split
  · exact PySem.F.type_str_removeprefix
  · exact PySem.F.type_str_startswith
  · exact PySem.F.type_str_join
  · exact PySem.F.type_dict_get
  · exact PySem.F.type_dict_get
  · exact PySem.F.type_list_clear
def rMt (G : Gam) (m : Mt) : V → List V → Hp → VK → Prop := fun x vs H Q => ∃ W st d ds, StOk G W st H ∧ Rep G.k W H d x ∧ Reps G.k W H ds vs ∧ Out G W H (methD m d ds st) Q
theorem Out.write {W : List Addr} {H : Hp} {st : Store} {n : Nat} {a : Addr} {c c' : Cell} {o : HO} {d : D} {v : V} {Q : VK} (so : StOk G W st H) (e1 : st[n]? = some c) (ha : W[n]? = some a) (hw : wr c = true) (hw' : wr c' = true)
    (hc : Ext W H W (upd H a o) → CellOk G W (upd H a o) a c') (r : Rep G.k W H d v) (h : Out G W H (.ok d (st.set n c')) Q) : Q v (upd H a o) := by
  obtain ⟨ex, so'⟩ := so.write e1 ha hw hw' hc
  exact h W _ v ex so' (r.ext ex)
theorem Out.writeL {W : List Addr} {H : Hp} {st : Store} {n : Nat} {a : Addr} {xs ys : List D} {vs : List V} {d : D} {v : V} {Q : VK} (so : StOk G W st H) (e1 : st[n]? = some (.lst xs)) (ha : W[n]? = some a)
    (hr : Reps G.k W H ys vs) (r : Rep G.k W H d v) (h : Out G W H (.ok d (st.set n (.lst ys))) Q) : Q v (upd H a (.lst vs)) :=
  Out.write (c := .lst xs) (c' := .lst ys) (o := .lst vs) so e1 ha rfl rfl (fun ex => ⟨vs, upd_same, hr.ext ex⟩) r h
theorem last_V {K : Kl} {W : List Addr} {H : Hp} {xs : List D} {vs : List V} {d : D} (r : Reps K W H xs vs) (h : xs.getLast? = some d) : ∃ v, vs[vs.length - 1]? = some v ∧ Rep K W H d v := by
  rw [List.getLast?_eq_getElem?, r.length] at h
  exact r.get h
theorem strs_V {K : Kl} {W : List Addr} {H : Hp} : ∀ ys : List Str, Reps K W H (ys.map .str) (ys.map V.str)
  | [] => .nil
  | _ :: r => .cons (.str _) (strs_V r)
theorem ixN_seqIx {n : Nat} {i : Int} {j : Nat} (h : ixOf n i = some j) : seqIndex? i n = some j := by
  rw [ixOf_eq] at h
  exact (L2.ixN_seq h).1
theorem mt_ok (c : Calm G X) (m : Mt) : MtR X (mtI m) (rMt G m) := by
  intro pins s σ H x vs v us Q I rx ru ⟨W, st, d, ds, so, rd, rds, h⟩
  have hK := c.K
  unfold methD at h
  split at h
  · -- append
    rename_i n d
    cases rd with
    | @loc _ a ha =>
      obtain ⟨w, rfl, r⟩ := reps1 rds
      split at h
      · rename_i xs e1
        split at h
        · rename_i hz
          obtain ⟨ws, h1, hr⟩ := cell_lst so e1 ha
          refine mt_append pins s σ H _ _ v us Q I rx ru ⟨a, ws, w, rfl, rfl, h1, by rw [← big_eq, ← hr.length]; exact hz, ?_⟩
          exact h.writeL so e1 ha (hr.append (.cons r .nil)) .non
        · exact False.elim h
      · exact False.elim h
  · -- extend
    cases rd with
    | @loc _ a ha =>
      obtain ⟨w, rfl, r⟩ := reps1 rds
      cases r with
      | @loc _ b hb =>
        split at h
        · rename_i xs ys e1 e2
          split at h
          · rename_i hz
            obtain ⟨ws, h1, hr⟩ := cell_lst so e1 ha
            obtain ⟨zs, h2, hr'⟩ := cell_lst so e2 hb
            rw [hr.length, hr'.length, big_eq] at hz
            refine mt_extend pins s σ H _ _ v us Q I rx ru ⟨a, b, ws, zs, rfl, rfl, h1, h2, hz, ?_⟩
            exact h.writeL so e1 ha (hr.append hr') .non
          · exact False.elim h
        · exact False.elim h
  · -- pop()
    cases rd with
    | @loc _ a ha =>
      cases rds
      split at h
      · rename_i xs e1
        split at h
        · rename_i d hd
          obtain ⟨ws, h1, hr⟩ := cell_lst so e1 ha
          obtain ⟨w, hw, r⟩ := last_V hr hd
          refine mt_pop pins s σ H _ _ v us Q I rx ru ⟨a, ws, w, rfl, rfl, h1, hw, ?_⟩
          exact h.writeL so e1 ha hr.dropLast r
        · exact False.elim h
      · exact False.elim h
  · -- pop(i)
    cases rd with
    | @loc _ a ha =>
      obtain ⟨w, rfl, r⟩ := reps1 rds
      cases r
      split at h
      · rename_i xs e1
        split at h
        · rename_i j hj
          split at h
          · rename_i d hd
            split at h
            · rename_i hz
              obtain ⟨ws, h1, hr⟩ := cell_lst so e1 ha
              obtain ⟨w, hw, r⟩ := hr.get hd
              refine mt_popAt pins s σ H _ _ v us Q I rx ru ⟨a, ws, _, j, w, rfl, rfl, h1, hz.1, hz.2, by rw [← hr.length]; exact ixN_seqIx hj, hw, ?_⟩
              exact h.writeL so e1 ha (hr.eraseIdx j) r
            · exact False.elim h
          · exact False.elim h
        · exact False.elim h
      · exact False.elim h
  · -- split
    cases rd
    obtain ⟨w, rfl, r⟩ := reps1 rds
    cases r
    split at h
    · rename_i hz
      refine mt_split pins s σ H _ _ v us Q I rx ru ⟨_, _, rfl, rfl, by simpa using hz.1, by rw [← big_eq]; exact hz.2, fun p hp => ?_⟩
      exact h.newL so (strs_V _) hp
    · exact False.elim h
  · -- removeprefix
    cases rd
    obtain ⟨w, rfl, r⟩ := reps1 rds
    cases r
    split at h
    · rename_i hz
      exact mt_removeprefix pins s σ H _ _ v us Q I rx ru ⟨_, _, rfl, rfl, by rw [← big_eq]; exact hz, h.same so (.str _)⟩
    · exact False.elim h
  · -- startswith
    cases rd
    obtain ⟨w, rfl, r⟩ := reps1 rds
    cases r
    exact mt_startswith pins s σ H _ _ v us Q I rx ru ⟨_, _, rfl, rfl, h.same so (.bl _)⟩
  · -- get(k, x)
    cases rd with
    | @loc _ a ha =>
      obtain ⟨w, w2, rfl, r, r2⟩ := reps2 rds
      split at h
      · rename_i kvs k e1 hk
        obtain ⟨ks, h1, h2⟩ := cell_dic so e1 ha
        obtain rfl := key_V r hk
        obtain ⟨u1, u2, rfl, q1, q2⟩ := vals2 ru
        obtain rfl : v = Value.ref a := rx
        refine d_get2 (by have := c.un; omega) I (.k h1) q1 q2 fun w' s' I' rw' => ⟨_, H, I', rw', ?_⟩
        rcases find_V k h2 with ⟨a1, b1⟩ | ⟨d', v', a1, b1, c1⟩
        · rw [a1] at h; rw [b1]; exact h.same so r2
        · rw [a1] at h; rw [b1]; exact h.same so c1
      · exact False.elim h
  · cases rd with
    | @loc _ a ha =>
      obtain ⟨w, rfl, r⟩ := reps1 rds
      split at h
      · rename_i kvs k e1 hk
        obtain ⟨ks, h1, h2⟩ := cell_dic so e1 ha
        obtain rfl := key_V r hk
        obtain ⟨u1, rfl, q1⟩ := vals1 ru
        obtain rfl : v = Value.ref a := rx
        refine d_get1 (by have := c.un; omega) I (.k h1) q1 fun w' s' I' rw' => ⟨_, H, I', rw', ?_⟩
        rcases find_V k h2 with ⟨a1, b1⟩ | ⟨d', v', a1, b1, c1⟩
        · rw [a1] at h; rw [b1]; exact h.same so .non
        · rw [a1] at h; rw [b1]; exact h.same so c1
      · exact False.elim h
  · exact False.elim h
/-- the receiver is of the method's type -/
theorem recv_V (hK : G.k.K = X.K) {m : Mt} {W : List Addr} {H : Hp} {st : Store} {d : D} {v : V} (so : StOk G W st H) (r : Rep G.k W H d v) (h : recvD m d st = true) : tyV X.K (mtT m) v H := by
  cases r with
  | str x => cases m <;> first | rfl | (simp [recvD] at h)
  | @loc n a ha =>
    simp only [recvD] at h
    split at h
    · rename_i e1
      obtain ⟨vs, h1, _⟩ := cell_lst so e1 ha
      cases m <;> first | exact .inl ⟨rfl, vs, SqL.of h1⟩ | (simp at h)
    · rename_i e1
      obtain ⟨ks, h1, _⟩ := cell_dic so e1 ha
      cases m <;> first | exact .inr (.inr (.inl ⟨rfl, .inl ⟨ks, h1⟩⟩)) | (simp at h)
    · cases h
  | _ => simp [recvD] at h
/-! ### isinstance -/
/-- the class that a type stands for -/
def tyName : Ty → String
  | .int => "int" | .bool => "bool" | .str => "str" | .tuple => "tuple" | .list => "list" | .dict => "dict" | .own _ => ""
/-- what the written part tells of the classes -/
structure ClsOk (G : Gam) : Prop where
  /-- a built-in type is no own class -/
  bt : ∀ (c : Str) (C : Addr), G.k.cls c = some C → ∀ n ∈ (["NoneType", "int", "bool", "str", "tuple", "list", "dict"] : List String), PySem.W.kitOne G.k.K (.type n) (.ref C) = some false
  own : ∀ (c c' : Str) (C C' : Addr), G.k.cls c = some C → G.k.cls c' = some C' → PySem.W.kitOne G.k.K (.ref C) (.ref C') = some (decide (c = c'))
  ob : ∀ (c : Str) (C : Addr), G.k.cls c = some C → ∀ n ∈ (["int", "bool", "str", "tuple", "list", "dict"] : List String), PySem.W.kitOne G.k.K (.ref C) (.type n) = some false
  cl : ∀ (c : Str) (C : Addr), G.k.cls c = some C → Cls G.k.K C
  ha : ∀ (c : Str) (C : Addr), G.k.cls c = some C → PySem.W.findIn G.k.K (.ref C) "__class__" = some (some (.builtin "object.__class__"))
  hn : ∀ (c : Str) (C : Addr), G.k.cls c = some C → PySem.W.specialIn G.k.K (.builtin "object.__class__") "__get__" = some (some (.builtin "getset_descriptor.__get__"))
  ht : ∀ (c : Str) (C : Addr), G.k.cls c = some C → PySem.W.takesIn G.k.K (.builtin "object.__class__") = some true
  hm : ∀ (c : Str) (C : Addr), G.k.cls c = some C → PySem.W.mroIn G.k.K C (.type "object") = some true
/-- the type as a value -/
inductive TyV (G : Gam) : Ty → V → Value → Prop where
  | int : TyV G .int (.ty "int") (.type "int")
  | bool : TyV G .bool (.ty "bool") (.type "bool")
  | str : TyV G .str (.ty "str") (.type "str")
  | tuple : TyV G .tuple (.ty "tuple") (.type "tuple")
  | list : TyV G .list (.ty "list") (.type "list")
  | dict : TyV G .dict (.ty "dict") (.type "dict")
  | own {c : Str} {C : Addr} : G.k.cls c = some C → TyV G (.own c) (.ref C) (.ref C)
theorem TyV.cls {t : Ty} {c : V} {u : Value} (h : TyV G t c u) : ClsV c u := by cases h <;> first | exact .ty _ | exact .own _
theorem rep_ty (hK : G.k.K = X.K) (co : ClsOk G) {W : List Addr} {H : Hp} {st : Store} {d : D} {v : V} (so : StOk G W st H) (r : Rep G.k W H d v) :
    ∃ t, TyX X.K H v t ∧ ∀ (ty : Ty) (c : V) (u : Value) (b : Bool), TyV G ty c u → isTy ty d st = some b → PySem.W.kitOne X.K t u = some b := by
  have K2 : ∀ {a b : String} {r : Bool}, kitB a b = some r → PySem.W.kitOne X.K (.type a) (.type b) = some r := fun h => kit_ty h
  have own : ∀ {n : String}, n ∈ (["NoneType", "int", "bool", "str", "tuple", "list", "dict"] : List String) → ∀ {c : Str} {C : Addr}, G.k.cls c = some C → PySem.W.kitOne X.K (.type n) (.ref C) = some false := fun hn _ _ hC => by rw [← hK]; exact co.bt _ _ hC _ hn
  cases r with
  | non => exact ⟨_, .base .non, fun ty c u b h e => by cases h <;> simp [isTy] at e <;> subst e <;> first | exact K2 (by decide +kernel) | exact own (by simp) (by assumption)⟩
  | bl k => exact ⟨_, .base (.bl k), fun ty c u b h e => by cases h <;> simp [isTy] at e <;> subst e <;> first | exact K2 (by decide +kernel) | exact own (by simp) (by assumption)⟩
  | int i => exact ⟨_, .base (.int i), fun ty c u b h e => by cases h <;> simp [isTy] at e <;> subst e <;> first | exact K2 (by decide +kernel) | exact own (by simp) (by assumption)⟩
  | str x => exact ⟨_, .base (.str x), fun ty c u b h e => by cases h <;> simp [isTy] at e <;> subst e <;> first | exact K2 (by decide +kernel) | exact own (by simp) (by assumption)⟩
  | @tup a vs xs ha hr =>
    have go : ∀ (ty : Ty) (c : V) (u : Value) (b : Bool), TyV G ty c u → isTy ty (.tup xs) st = some b → PySem.W.kitOne X.K (.type "tuple") u = some b := fun ty c u b h e => by
      cases h <;> simp [isTy] at e <;> subst e <;> first | exact K2 (by decide +kernel) | exact own (by simp) (by assumption)
    rw [hK] at ha
    rcases ha with (h | ⟨o, h⟩) | ⟨o, its, n, h1, h2, _⟩
    · exact ⟨_, .base (.tup h), go⟩
    · exact ⟨_, .fTuple h, go⟩
    · exact ⟨_, .kTuple h1 h2, go⟩
  | @fl a o vs xs ha hr => exact ⟨_, .base (.frz ha), fun ty c u b h e => by cases h <;> simp [isTy] at e <;> subst e <;> first | exact K2 (by decide +kernel) | exact own (by simp) (by assumption)⟩
  | @obj a C dx k gs xs h1 _ h0 hr =>
    refine ⟨_, .base (.ins h1 (by rw [← hK]; exact co.cl _ _ h0) (by rw [← hK]; exact co.ha _ _ h0) (by rw [← hK]; exact co.hn _ _ h0) (by rw [← hK]; exact co.ht _ _ h0) (by rw [← hK]; exact co.hm _ _ h0)), fun ty c u b h e => ?_⟩
    rw [← hK]
    cases h with
    | own hC =>
      simp [isTy] at e
      subst e
      exact co.own _ _ _ _ h0 hC
    | _ =>
      simp [isTy] at e
      subst e
      exact co.ob _ _ h0 _ (by simp)
  | @loc n a ha =>
    cases e1 : st[n]? with
    | none =>
      exfalso
      have := (List.getElem?_eq_some_iff.mp ha).1
      rw [List.getElem?_eq_none_iff, ← so.len] at e1
      omega
    | some c =>
      cases c with
      | lst xs =>
        obtain ⟨vs, h1, _⟩ := cell_lst so e1 ha
        exact ⟨_, .base (.lst h1), fun ty c u b h e => by cases h <;> simp [isTy, e1] at e <;> subst e <;> first | exact K2 (by decide +kernel) | exact own (by simp) (by assumption)⟩
      | rol xs =>
        obtain ⟨vs, h1, _⟩ := so.cell n _ a e1 ha
        have go : ∀ (ty : Ty) (c : V) (u : Value) (b : Bool), TyV G ty c u → isTy ty (.loc n) st = some b → PySem.W.kitOne X.K (.type "list") u = some b := fun ty c u b h e => by
          cases h <;> simp [isTy, e1] at e <;> subst e <;> first | exact K2 (by decide +kernel) | exact own (by simp) (by assumption)
        obtain ⟨o, h1⟩ := h1
        exact ⟨_, .base (.frz h1), go⟩
      | dic kvs =>
        obtain ⟨ks, h1, _⟩ := cell_dic so e1 ha
        exact ⟨_, .base (.dK h1), fun ty c u b h e => by cases h <;> simp [isTy, e1] at e <;> subst e <;> first | exact K2 (by decide +kernel) | exact own (by simp) (by assumption)⟩
      | ins k fs =>
        obtain ⟨C, dx, gs, h0, h1, _⟩ := so.cell n _ a e1 ha
        refine ⟨_, .base (.ins h1 (by rw [← hK]; exact co.cl _ _ h0) (by rw [← hK]; exact co.ha _ _ h0) (by rw [← hK]; exact co.hn _ _ h0) (by rw [← hK]; exact co.ht _ _ h0) (by rw [← hK]; exact co.hm _ _ h0)), fun ty c u b h e => ?_⟩
        rw [← hK]
        cases h with
        | own hC =>
          simp [isTy, e1] at e
          subst e
          exact co.own _ _ _ _ h0 hC
        | _ =>
          simp [isTy, e1] at e
          subst e
          exact co.ob _ _ h0 _ (by simp)
theorem isTys_any (hK : G.k.K = X.K) {t : Value} {d : D} {st : Store} (h0 : ∀ (ty : Ty) (c : V) (u : Value) (b : Bool), TyV G ty c u → isTy ty d st = some b → PySem.W.kitOne X.K t u = some b) :
    ∀ {ts : List Ty} {cs : List V} {us : List Value} {b : Bool}, Paired (fun (p : Ty × V) u => TyV G p.1 p.2 u) (ts.zip cs) us → ts.length = cs.length → isTys ts d st = some b → PySem.W.kitAny X.K t us = some b
  | [], [], us, b, h, _, e => by
    cases h
    simp [isTys] at e
    subst e
    rfl
  | t1 :: ts, c :: cs, us, b, h, hl, e => by
    cases h with
    | cons h1 h2 =>
      simp only [isTys] at e
      split at e
      · rename_i x y hx hy
        cases e
        refine kitAny_cons (h0 _ _ _ _ h1 hx) (fun hb => ?_) fun hb => by rw [hb]; rfl
        rw [hb, Bool.false_or]
        exact isTys_any hK h0 h2 (by simpa using hl) hy
      · cases e
  | [], _ :: _, _, _, _, hl, _ => by simp at hl
  | _ :: _, [], _, _, _, hl, _ => by simp at hl
/-! ### f-strings -/
theorem fmt_V {K : Kl} {W : List Addr} {H : Hp} {d : D} {v : V} {x : Str} (r : Rep K W H d v) (h : fmtD d = some x) : (∃ y : Str, v = .str y ∧ y.length ≤ sizeLine ∧ x = y) ∨ ∃ i : Int, v = .int i ∧ i.natAbs.log2 < 1920 ∧ x = toString i := by
  cases r with
  | str s =>
    simp only [fmtD] at h
    split at h
    · rename_i hz
      cases h
      exact .inl ⟨_, rfl, by rw [← big_eq]; exact hz, rfl⟩
    · cases h
  | int i =>
    simp only [fmtD] at h
    split at h
    · rename_i hz
      cases h
      exact .inr ⟨i, rfl, hz, rfl⟩
    · cases h
  | _ => simp [fmtD] at h
end MM
end

section
set_option Elab.async false
set_option linter.all false
set_option maxRecDepth 100000
set_option maxHeartbeats 4000000
/-! MMSE: the judgements of the evaluator's expressions. -/
namespace MM
open PySem L2 PyProof.Rows
/-- an exception's class: the written part's address, the names of its fields -/
abbrev Excs := Str → Option Addr
def ExOk (G : Gam) (xs : Excs) (W : List Addr) (H : Hp) (e : Ex) (cls : Value) (dd : Option Addr) : Prop :=
  ∃ C, xs e.cls = some C ∧ cls = .ref C ∧ ((e.fs = [] ∧ dd = none) ∨ ∃ d gs, dd = some d ∧ H d = some (.xd gs) ∧ FldR G.k W H e.fs gs)
/-- the lambda that a def has got: the slot, the function's address, its code object and name, the maker's names and slots -/
structure Lm where
  i : Nat
  f : Addr
  c : Addr
  q : Str
  o : HO
  ρ : Env
  σ : L2.St
/-- what is static -/
structure Sta where
  G : Gam
  xs : Excs
  fs : List Fr
  cu : Option (Ex × Value × Option Addr × Nat × Addr)
  lm : Option Lm
/-- nothing is handled, no lambda is held -/
def Sta.plain (S : Sta) : Prop := S.cu = none ∧ S.lm = none
def Sta.cur (S : Sta) : Option Ex := S.cu.map (·.1)
structure Rl (S : Sta) (W : List Addr) (ρ : Env) (st : Store) (σ : L2.St) (H : Hp) : Prop where
  so : StOk S.G W st H
  eo : EnvOk S.G.k W H ρ σ
  co : ∀ e cls dd i a, S.cu = some (e, cls, dd, i, a) → ExOk S.G S.xs W H e cls dd ∧ σ[i]? = some (some (.ref a))
  lo : ∀ m, S.lm = some m → σ[m.i]? = some (some (.ref m.f)) ∧ H m.c = some (LamX.CodeO m.c m.q) ∧ (H m.f = some m.o ∧ fixO m.o = true) ∧ EnvOk S.G.k W H m.ρ m.σ
theorem Rl.mk0 {S : Sta} {W : List Addr} {ρ : Env} {st : Store} {σ : L2.St} {H : Hp} (p : S.plain) (so : StOk S.G W st H) (eo : EnvOk S.G.k W H ρ σ) : Rl S W ρ st σ H := ⟨so, eo, (fun e cls dd i a h => by rw [p.1] at h; cases h), fun m h => by rw [p.2] at h; cases h⟩
theorem ExOk.ext {G : Gam} {xs : Excs} {W W' : List Addr} {H H' : Hp} {e : Ex} {cls : Value} {dd : Option Addr} (h : ExOk G xs W H e cls dd) (x : Ext W H W' H') : ExOk G xs W' H' e cls dd := by
  obtain ⟨C, h1, h2, h3⟩ := h
  refine ⟨C, h1, h2, ?_⟩
  rcases h3 with h3 | ⟨d, gs, h3, h4, h5⟩
  · exact .inl h3
  · exact .inr ⟨d, gs, h3, x.fix _ _ h4 rfl, h5.imp fun _ _ r => r.ext x⟩
theorem Rl.next {S : Sta} {W W' : List Addr} {ρ : Env} {st st' : Store} {σ : L2.St} {H H' : Hp} (r : Rl S W ρ st σ H) (x : Ext W H W' H') (so : StOk S.G W' st' H') : Rl S W' ρ st' σ H' :=
  ⟨so, r.eo.ext x, (fun e cls dd i a h => ⟨(r.co e cls dd i a h).1.ext x, (r.co e cls dd i a h).2⟩), fun m h => ⟨(r.lo m h).1, x.fix _ _ (r.lo m h).2.1 rfl, ⟨x.fix _ _ (r.lo m h).2.2.1.1 (r.lo m h).2.2.1.2, (r.lo m h).2.2.1.2⟩, (r.lo m h).2.2.2.ext x⟩⟩
/-- what is wanted behind a step -/
def Aft {α : Type} (S : Sta) (Wx : WX) (σ : L2.St) (W : List Addr) (H : Hp) (r : Res α) (P : List Addr → Hp → α → Store → Prop) : Prop :=
  match r with
  | .ok a st' => ∀ W' H', Ext W H W' H' → StOk S.G W' st' H' → P W' H' a st'
  | .exc e st' => ∀ W' H' cls dd, Ext W H W' H' → StOk S.G W' st' H' → ExOk S.G S.xs W' H' e cls dd → Wx cls dd σ H'
  | .bad => False
section
variable {S : Sta} {Wx : WX} {σ : L2.St} {W : List Addr} {H : Hp} {α β : Type}
theorem Aft.bind {r : Res α} {k : α → Store → Res β} {P : List Addr → Hp → β → Store → Prop} (h : Aft S Wx σ W H (r.bind k) P) : Aft S Wx σ W H r (fun W' H' a st' => Aft S Wx σ W' H' (k a st') P) := by
  cases r with
  | ok a st =>
    intro W' H' x so
    show Aft S Wx σ W' H' (k a st) P
    have h : Aft S Wx σ W H (k a st) P := h
    cases e : k a st with
    | ok b st2 => rw [e] at h; intro W2 H2 x2 so2; exact h W2 H2 (x.trans x2) so2
    | exc ex st2 => rw [e] at h; intro W2 H2 cls dd x2 so2 q; exact h W2 H2 cls dd (x.trans x2) so2 q
    | bad => rw [e] at h; exact h.elim
  | exc e st => exact h
  | bad => exact h
/-- seen from the start -/
theorem Aft.bind2 {r : Res α} {k : α → Store → Res β} {P : List Addr → Hp → β → Store → Prop} (h : Aft S Wx σ W H (r.bind k) P) : Aft S Wx σ W H r (fun _ _ a st' => Aft S Wx σ W H (k a st') P) := by
  cases r with
  | ok a st => intro W' H' x so; exact h
  | exc e st => exact h
  | bad => exact h
theorem Aft.mono {r : Res α} {P Q : List Addr → Hp → α → Store → Prop} (h : Aft S Wx σ W H r P) (f : ∀ W' H' a st', Ext W H W' H' → StOk S.G W' st' H' → P W' H' a st' → Q W' H' a st') : Aft S Wx σ W H r Q := by
  cases r with
  | ok a st => intro W' H' x so; exact f _ _ _ _ x so (h W' H' x so)
  | exc e st => exact h
  | bad => exact h
end
/-- the reading of an expression; of a test; of arguments -/
def RT (S : Sta) (Wx : WX) (f : Env → Store → Res D) : TE := fun σ H Q => ∃ W ρ st, Rl S W ρ st σ H ∧ Aft S Wx σ W H (f ρ st) (fun W' H' d _ => ∀ v, Rep S.G.k W' H' d v → Q v H')
def RTT (S : Sta) (Wx : WX) (f : Env → Store → Res D) : TT := fun σ H Q => ∃ W ρ st, Rl S W ρ st σ H ∧ Aft S Wx σ W H (f ρ st) (fun W' H' d st' => ∃ k, truD d st' = some k ∧ Q k H')
def RTA (S : Sta) (Wx : WX) (f : Env → Store → Res (List D)) : TA := fun σ H Q => ∃ W ρ st, Rl S W ρ st σ H ∧ Aft S Wx σ W H (f ρ st) (fun W' H' ds _ => ∀ vs, Reps S.G.k W' H' ds vs → Q vs H')
def SE (S : Sta) (X : Cx) (f : Env → Store → Res D) (e : Expr) : Prop := ∀ Wx, Takes X Wx → PE X e (RT S Wx f)
def ST (S : Sta) (X : Cx) (f : Env → Store → Res D) (e : Expr) : Prop := ∀ Wx, Takes X Wx → PT X e (RTT S Wx f)
def SA (S : Sta) (X : Cx) (f : Env → Store → Res (List D)) (es : List Expr) : Prop := ∀ Wx, Takes X Wx → PA X es (RTA S Wx f)
theorem pe_imp {X : Cx} {e : Expr} {t t' : TE} (h : PE X e t) (f : ∀ σ H Q, t' σ H Q → t σ H Q) : PE X e t' := ⟨fun pins s σ H Q I q => h.run pins s σ H Q I (f σ H Q q)⟩
theorem pt_imp {X : Cx} {e : Expr} {t t' : TT} (h : PT X e t) (f : ∀ σ H Q, t' σ H Q → t σ H Q) : PT X e t' := ⟨fun pins s σ H Q I q => h.run pins s σ H Q I (f σ H Q q)⟩
theorem pw_imp {X : Cx} {e : Expr} {t t' : TT} (h : PW X e t) (f : ∀ σ H Q, t' σ H Q → t σ H Q) : PW X e t' := ⟨fun wh pins s σ H Q I q => h.run wh pins s σ H Q I (f σ H Q q)⟩
theorem pa_imp {X : Cx} {e : List Expr} {t t' : TA} (h : PA X e t) (f : ∀ σ H Q, t' σ H Q → t σ H Q) : PA X e t' := ⟨fun p pins s σ H Q I q => h.run p pins s σ H Q I (f σ H Q q)⟩
/-- the context of expressions -/
structure GX (S : Sta) (k : Nat) (X : Cx) (N : List Str) (sc : Scope) : Prop where
  prog : X.prog = S.G.P
  w : X.w = S.G.w
  K : S.G.k.K = X.K
  mg : X.mg = S.G.mg
  base : X.base = S.G.base
  nm : X.N = N
  nd : N.Nodup
  sc : X.env.scope = sc
  un : X.A.units + 128 < cLine
  gd : X.A.guards = some []
  cls : ClsOk S.G
  cm : X.calm = true → Room k X.A
theorem GX.calm {S : Sta} {k : Nat} {X : Cx} {N : List Str} {sc : Scope} (g : GX S k X N sc) : Calm S.G X := ⟨g.K, g.un, g.gd⟩

section
variable {S : Sta} {k : Nat} {X : Cx} {N : List Str} {sc : Scope} {Wx : WX} {pos : Pos}
theorem se_v {i : Nat} {x : Str} (hN : X.N[i]? = some x) (hv : Vis X.env.scope x) (hd : (x == ("__debug__" : Str)) = false) (hcd : (x == ("__classdict__" : Str)) = false) {f : Env → Store → Res D} (hf : ∀ ρ st, f ρ st = match ρ[i]? with | some (some d) => .ok d st | _ => .bad) : SE S X f (.Name x pos) := by
  intro Wx tk
  refine pe_imp (pe_var hN hv hd hcd) ?_
  rintro σ H Q ⟨W, ρ, st, r, h⟩
  rw [hf] at h
  split at h
  · rename_i d e
    obtain ⟨v, h1, h2⟩ := r.eo.2 _ _ e
    exact ⟨v, h1, h W H Ext.refl r.so v h2⟩
  · exact h.elim
theorem se_con {d : D} {v : V} {e : Expr} {f : Env → Store → Res D} (h : PE X e (tC v)) (hv : ∀ W H, Rep S.G.k W H d v) (hf : ∀ ρ st, f ρ st = .ok d st) : SE S X f e := by
  intro Wx tk
  refine pe_imp h ?_
  rintro σ H Q ⟨W, ρ, st, r, q⟩
  rw [hf] at q
  exact q W H Ext.refl r.so v (hv W H)
/-- two expressions, then an operation on their values -/
theorem bin_imp {fa fb : Env → Store → Res D} {g : D → D → Store → Res D} {rr : R2} (hr : ∀ W H d e st x y Q, StOk S.G W st H → Rep S.G.k W H d x → Rep S.G.k W H e y → Out S.G W H (g d e st) Q → rr x y H Q)
    (hg : ∀ d e st ex st', g d e st ≠ .exc ex st') {σ : L2.St} {H : Hp} {Q : VK} (h : RT S Wx (fun ρ st => (fa ρ st).bind fun x st1 => (fb ρ st1).bind fun y st2 => g x y st2) σ H Q) : tOp rr (RT S Wx fa) (RT S Wx fb) σ H Q := by
  obtain ⟨W, ρ, st, r, h⟩ := h
  refine ⟨W, ρ, st, r, h.bind.mono fun W1 H1 d st1 x1 so1 h1 v1 r1 => ?_⟩
  refine ⟨W1, ρ, st1, r.next x1 so1, h1.bind.mono fun W2 H2 e st2 x2 so2 h2 v2 r2 => ?_⟩
  refine hr W2 H2 d e st2 v1 v2 Q so2 (r1.ext x2) r2 ?_
  cases e1 : g d e st2 with
  | ok z st3 => rw [e1] at h2; intro W3 H3 v x3 so3 rz; exact h2 W3 H3 x3 so3 v rz
  | exc ex st3 => exact (hg _ _ _ _ _ e1).elim
  | bad => rw [e1] at h2; exact h2.elim
/-- nothing is raised by an operation -/
theorem noex {r : Res D} {σ : L2.St} {W : List Addr} {H : Hp} {Q : VK} (hn : ∀ ex st', r ≠ .exc ex st') (h : Aft S Wx σ W H r (fun W' H' d _ => ∀ v, Rep S.G.k W' H' d v → Q v H')) : Out S.G W H r Q := by
  cases r with
  | ok z st3 => intro W3 H3 v x3 so3 rz; exact h W3 H3 x3 so3 v rz
  | exc ex st3 => exact (hn _ _ rfl).elim
  | bad => exact h.elim
theorem binD_noex (op : Operator) (d e : D) (st : Store) (ex : Ex) (st' : Store) : binD op d e st ≠ .exc ex st' := by
  intro h
  cases op <;> simp only [binD, addD, mulD, catD, repD] at h <;> (repeat' split at h) <;> cases h
theorem se_bin (g : GX S k X N sc) {op : Operator} {fa fb f : Env → Store → Res D} {a b : Expr} (ha : SE S X fa a) (hb : SE S X fb b) (hf : ∀ ρ st, f ρ st = (fa ρ st).bind fun x st1 => (fb ρ st1).bind fun y st2 => binD op x y st2) : SE S X f (.BinOp a op b pos) := by
  intro Wx tk
  refine pe_imp (pe_op (op_bin g.K op) (ha Wx tk) (hb Wx tk)) fun σ H Q h => ?_
  refine bin_imp (g := binD op) (fun W H d e st x y Q so r1 r2 h => ⟨W, st, d, e, so, r1, r2, h⟩) (binD_noex op) ?_
  obtain ⟨W, ρ, st, r, h⟩ := h
  rw [hf] at h
  exact ⟨W, ρ, st, r, h⟩
theorem un_imp {fa : Env → Store → Res D} {gg : D → Store → Res D} {rr : V → Hp → VK → Prop} (hr : ∀ W H d st x Q, StOk S.G W st H → Rep S.G.k W H d x → Aft S Wx σ W H (gg d st) (fun W' H' d _ => ∀ v, Rep S.G.k W' H' d v → Q v H') → rr x H Q)
    {H : Hp} {Q : VK} (h : RT S Wx (fun ρ st => (fa ρ st).bind fun x st1 => gg x st1) σ H Q) : tUn rr (RT S Wx fa) σ H Q := by
  obtain ⟨W, ρ, st, r, h⟩ := h
  exact ⟨W, ρ, st, r, h.bind.mono fun W1 H1 d st1 x1 so1 h1 v1 r1 => hr W1 H1 d st1 v1 Q so1 r1 h1⟩
theorem se_neg {fa f : Env → Store → Res D} {a : Expr} (ha : SE S X fa a) (hf : ∀ ρ st, f ρ st = (fa ρ st).bind fun x st1 => negD x st1) : SE S X f (.UnaryOp .USub a pos) := by
  intro Wx tk
  refine pe_imp (pe_un un_neg (ha Wx tk)) fun σ H Q h => ?_
  refine un_imp (gg := negD) (fun W H d st x Q so r h => ?_) (by obtain ⟨W, ρ, st, r, h⟩ := h; rw [hf] at h; exact ⟨W, ρ, st, r, h⟩)
  cases r with
  | int i => exact ⟨i, rfl, h W H Ext.refl so _ (.int _)⟩
  | _ => exact h.elim
theorem se_inv {fa f : Env → Store → Res D} {a : Expr} (ha : SE S X fa a) (hf : ∀ ρ st, f ρ st = (fa ρ st).bind fun x st1 => invD x st1) : SE S X f (.UnaryOp .Invert a pos) := by
  intro Wx tk
  refine pe_imp (pe_un un_inv (ha Wx tk)) fun σ H Q h => ?_
  refine un_imp (gg := invD) (fun W H d st x Q so r h => ?_) (by obtain ⟨W, ρ, st, r, h⟩ := h; rw [hf] at h; exact ⟨W, ρ, st, r, h⟩)
  cases r with
  | int i =>
    refine ⟨i, rfl, ?_⟩
    have e : Builtin.bitNot i = -i - 1 := by unfold Builtin.bitNot; omega
    show Q (.int (Builtin.bitNot i)) H
    rw [e]
    exact h W H Ext.refl so _ (.int _)
  | _ => exact h.elim
theorem se_not (g : GX S k X N sc) {fa f : Env → Store → Res D} {a : Expr} (ha : SE S X fa a) (hf : ∀ ρ st, f ρ st = (fa ρ st).bind fun x st1 => ofB ((truD x st1).map (!·)) st1) : SE S X f (.UnaryOp .Not a pos) := by
  intro Wx tk
  refine pe_imp (pe_notT (ha Wx tk)) fun σ H Q h => ?_
  obtain ⟨W, ρ, st, r, h⟩ := h
  rw [hf] at h
  refine ⟨W, ρ, st, r, h.bind.mono fun W1 H1 d st1 x1 so1 h1 v1 r1 => ?_⟩
  cases e : truD d st1 with
  | none => rw [e] at h1; exact h1.elim
  | some b => rw [e] at h1; exact ⟨b, tru_V g.K so1 r1 e, h1 W1 H1 Ext.refl so1 _ (.bl _)⟩
theorem st_not {fa f : Env → Store → Res D} {a : Expr} (ha : ST S X fa a) (hf : ∀ ρ st, f ρ st = (fa ρ st).bind fun x st1 => ofB ((truD x st1).map (!·)) st1) : ST S X f (.UnaryOp .Not a pos) := by
  intro Wx tk
  refine pt_imp (pt_not (ha Wx tk)) fun σ H Q h => ?_
  obtain ⟨W, ρ, st, r, h⟩ := h
  rw [hf] at h
  refine ⟨W, ρ, st, r, h.bind.mono fun W1 H1 d st1 x1 so1 h1 => ?_⟩
  cases e : truD d st1 with
  | none => rw [e] at h1; exact h1.elim
  | some b =>
    rw [e] at h1
    obtain ⟨c, h2, h3⟩ := h1 W1 H1 Ext.refl so1
    simp [truD] at h2
    subst h2
    exact ⟨_, rfl, by simpa using h3⟩
/-- a test by its value's truth -/
theorem st_tru (g : GX S k X N sc) {f : Env → Store → Res D} {a : Expr} (ha : SE S X f a) (he : ∀ whole, isTrue a X.env whole = (do let v ← whole; standAt a.pos; holding [v] (truthy v))) : ST S X f a := by
  intro Wx tk
  refine pt_imp (pt_truth (ha Wx tk) he) fun σ H Q h => ?_
  obtain ⟨W, ρ, st, r, h⟩ := h
  exact ⟨W, ρ, st, r, h.mono fun W1 H1 d st1 x1 so1 ⟨b, h1, h2⟩ v rv => ⟨b, tru_V g.K so1 rv h1, h2⟩⟩
theorem se_cmp (g : GX S k X N sc) {op : CmpOp} {fa fb f : Env → Store → Res D} {a b : Expr} (ha : SE S X fa a) (hb : SE S X fb b) (hm : behindInMarks op b = false) (hf : ∀ ρ st, f ρ st = (fa ρ st).bind fun x st1 => (fb ρ st1).bind fun y st2 => ofB (cmpD op x y st2) st2) : SE S X f (.Compare a [op] [b] pos) := by
  intro Wx tk
  refine pe_imp (pe_cmpR (op_cmp g.K (by have := g.un; omega) op) (ha Wx tk) (hb Wx tk) hm) fun σ H Q h => ?_
  obtain ⟨W, ρ, st, r, h⟩ := h
  rw [hf] at h
  refine ⟨W, ρ, st, r, h.bind.mono fun W1 H1 d st1 x1 so1 h1 v1 r1 => ⟨W1, ρ, st1, r.next x1 so1, h1.bind.mono fun W2 H2 e st2 x2 so2 h2 v2 r2 => ?_⟩⟩
  cases e1 : cmpD op d e st2 with
  | none => rw [e1] at h2; exact h2.elim
  | some b => rw [e1] at h2; exact ⟨W2, st2, d, e, b, so2, r1.ext x2, r2, e1, h2 W2 H2 Ext.refl so2 _ (.bl _)⟩
theorem st_cmp (g : GX S k X N sc) {op : CmpOp} {fa fb f : Env → Store → Res D} {a b : Expr} (ha : SE S X fa a) (hb : SE S X fb b) (hm : behindInMarks op b = false) (hf : ∀ ρ st, f ρ st = (fa ρ st).bind fun x st1 => (fb ρ st1).bind fun y st2 => ofB (cmpD op x y st2) st2) : ST S X f (.Compare a [op] [b] pos) := by
  intro Wx tk
  refine pt_imp (pt_cmpR (op_cmp g.K (by have := g.un; omega) op) (ha Wx tk) (hb Wx tk) hm) fun σ H Q h => ?_
  obtain ⟨W, ρ, st, r, h⟩ := h
  rw [hf] at h
  refine ⟨W, ρ, st, r, h.bind.mono fun W1 H1 d st1 x1 so1 h1 v1 r1 => ⟨W1, ρ, st1, r.next x1 so1, h1.bind.mono fun W2 H2 e st2 x2 so2 h2 v2 r2 => ?_⟩⟩
  cases e1 : cmpD op d e st2 with
  | none => rw [e1] at h2; exact h2.elim
  | some b =>
    rw [e1] at h2
    obtain ⟨c, h3, h4⟩ := h2 W2 H2 Ext.refl so2
    simp [truD] at h3
    subst h3
    exact ⟨W2, st2, d, e, b, so2, r1.ext x2, r2, e1, b, rfl, h4⟩
/-- the middle of a chain -/
def chD (o1 o2 : CmpOp) (fc : Env → Store → Res D) (ρ : Env) (x y : D) (st2 : Store) : Res D := match cmpD o1 x y st2 with
    | some true => (fc ρ st2).bind fun z st3 => ofB (cmpD o2 y z st3) st3
    | some false => .ok (.bl false) st2
    | none => .bad
theorem chain_imp {o1 o2 : CmpOp} {fa fb fc f : Env → Store → Res D} {σ : L2.St} {H : Hp} {Q : VK} (hf : ∀ ρ st, f ρ st = (fa ρ st).bind fun x st1 => (fb ρ st1).bind fun y st2 => chD o1 o2 fc ρ x y st2)
    (h : RT S Wx f σ H Q) : tChain (rCmp S.G o1) (rCmp S.G o2) (RT S Wx fa) (RT S Wx fb) (RT S Wx fc) σ H Q := by
  obtain ⟨W, ρ, st, r, h⟩ := h
  rw [hf] at h
  refine ⟨W, ρ, st, r, h.bind.mono fun W1 H1 d st1 x1 so1 h1 v1 r1 => ⟨W1, ρ, st1, r.next x1 so1, h1.bind.mono fun W2 H2 e st2 x2 so2 h2 v2 r2 => ?_⟩⟩
  unfold chD at h2
  cases e1 : cmpD o1 d e st2 with
  | none => rw [e1] at h2; exact h2.elim
  | some b =>
    rw [e1] at h2
    refine ⟨W2, st2, d, e, b, so2, r1.ext x2, r2, e1, b, rfl, ?_⟩
    cases b with
    | false => rw [if_neg Bool.false_ne_true]; exact h2 W2 H2 Ext.refl so2 _ (.bl _)
    | true =>
      rw [if_pos rfl]
      refine ⟨W2, ρ, st2, (r.next x1 so1).next x2 so2, h2.bind.mono fun W3 H3 z st3 x3 so3 h3 v3 r3 => ?_⟩
      cases e2 : cmpD o2 e z st3 with
      | none => rw [e2] at h3; exact h3.elim
      | some c => rw [e2] at h3; exact ⟨W3, st3, e, z, c, so3, r2.ext x3, r3, e2, h3 W3 H3 Ext.refl so3 _ (.bl _)⟩
theorem se_chain (g : GX S k X N sc) {o1 o2 : CmpOp} {fa fb fc f : Env → Store → Res D} {a b c : Expr} (ha : SE S X fa a) (hb : SE S X fb b) (hc : SE S X fc c) (hm : lastMarks [o1, o2] [b, c] = false) (hf : ∀ ρ st, f ρ st = (fa ρ st).bind fun x st1 => (fb ρ st1).bind fun y st2 => chD o1 o2 fc ρ x y st2) :
    SE S X f (.Compare a [o1, o2] [b, c] pos) := by
  intro Wx tk
  exact pe_imp (pe_chain (op_cmp g.K (by have := g.un; omega) o1) (op_cmp g.K (by have := g.un; omega) o2) (ha Wx tk) (hb Wx tk) (hc Wx tk) hm) fun σ H Q h => chain_imp hf h
theorem rtt_test {f : Env → Store → Res D} {σ : L2.St} {H : Hp} {Q : Bool → Hp → Prop} (hb : ∀ ρ st d st', f ρ st = .ok d st' → ∃ k, d = .bl k) (h : RTT S Wx f σ H Q) : RT S Wx f σ H (fun x H' => ∃ k, x = .bl k ∧ Q k H') := by
  obtain ⟨W, ρ, st, r, h⟩ := h
  refine ⟨W, ρ, st, r, ?_⟩
  cases e : f ρ st with
  | ok d st' =>
    rw [e] at h
    obtain ⟨k, rfl⟩ := hb _ _ _ _ e
    intro W1 H1 x1 so1 v rv
    obtain ⟨c, h3, h4⟩ := h W1 H1 x1 so1
    simp [truD] at h3
    subst h3
    cases rv
    exact ⟨_, rfl, h4⟩
  | exc ex st' => rw [e] at h; exact h
  | bad => rw [e] at h; exact h.elim
theorem st_chain (g : GX S k X N sc) {o1 o2 : CmpOp} {fa fb fc f : Env → Store → Res D} {a b c : Expr} (ha : SE S X fa a) (hb : SE S X fb b) (hc : SE S X fc c) (hm : lastMarks [o1, o2] [b, c] = false) (hf : ∀ ρ st, f ρ st = (fa ρ st).bind fun x st1 => (fb ρ st1).bind fun y st2 => chD o1 o2 fc ρ x y st2) :
    ST S X f (.Compare a [o1, o2] [b, c] pos) := by
  intro Wx tk
  refine pt_imp (pt_chain (op_cmp g.K (by have := g.un; omega) o1) (op_cmp g.K (by have := g.un; omega) o2) (ha Wx tk) (hb Wx tk) (hc Wx tk) hm) fun σ H Q h => chain_imp hf (rtt_test (fun ρ st d st' e => ?_) h)
  rw [hf] at e
  cases e1 : fa ρ st with
  | ok x st1 =>
    rw [e1] at e
    simp only [Res.bind_ok] at e
    cases e2 : fb ρ st1 with
    | ok y st2 =>
      rw [e2] at e
      simp only [Res.bind_ok, chD] at e
      split at e
      · cases e3 : fc ρ st2 with
        | ok z st3 =>
          rw [e3] at e
          simp only [Res.bind_ok, ofB] at e
          split at e
          · cases e; exact ⟨_, rfl⟩
          · cases e
        | exc _ _ => rw [e3] at e; cases e
        | bad => rw [e3] at e; cases e
      · cases e; exact ⟨_, rfl⟩
      · cases e
    | exc _ _ => rw [e2] at e; cases e
    | bad => rw [e2] at e; cases e
  | exc _ _ => rw [e1] at e; cases e
  | bad => rw [e1] at e; cases e
end
end MM
end

section
set_option Elab.async false
set_option linter.all false
set_option maxRecDepth 100000
set_option maxHeartbeats 4000000
/-! MMSE2: more expressions of the evaluator. -/
namespace MM
open PySem L2 PyProof.Rows
/-! ### the text's shape -/
def noStar : Expr → Bool | .Starred .. => false | _ => true
def noSlice : Expr → Bool | .Slice .. => false | _ => true
def noCall0 : Expr → Bool | .Call _ [] [] _ => false | _ => true
def plainT : Expr → Bool | .UnaryOp .Not .. => false | .BoolOp .. => false | .IfExp .. => false | .Compare .. => false | _ => true
def noComp : Expr → Bool | .ListComp .. => false | .SetComp .. => false | .DictComp .. => false | _ => true
def noSetD : Expr → Bool | .Set .. => false | _ => true
theorem star_cons {e : Expr} {es : List Expr} {env : PySem.Env} (h : noStar e = true) : starEach (e :: es) env = (false, eval e env) :: starEach es env := by
  cases e <;> first | rfl | cases h
theorem star_any {pos : Pos} {env : PySem.Env} : ∀ {es : List Expr}, es.all noStar = true → (backTo pos (starEach es env)).any (·.1) = false
  | [], _ => rfl
  | e :: es, h => by
    simp only [List.all_cons, Bool.and_eq_true] at h
    rw [star_cons h.1]
    show (false || (backTo pos (starEach es env)).any (·.1)) = false
    rw [star_any h.2]
    rfl
theorem star_all {pos : Pos} {env : PySem.Env} : ∀ {es : List Expr}, es.all noStar = true → (backTo pos (starEach es env)).all (fun x => !x.1) = true
  | [], _ => rfl
  | e :: es, h => by
    simp only [List.all_cons, Bool.and_eq_true] at h
    rw [star_cons h.1]
    show (!false && (backTo pos (starEach es env)).all (fun x => !x.1)) = true
    rw [star_all h.2]
    rfl
theorem ix_plain {b : Expr} (h : noSlice b = true) : PlainIx b := by
  intro o i
  cases b <;> first | rfl | cases h
theorem att_plain {o : Expr} {f : Str} {env : PySem.Env} (h : noCall0 o = true) : attributeBase o f env (eval o env) = eval o env := by
  unfold attributeBase
  split
  · cases h
  · rfl
theorem tru_plain {a : Expr} {env : PySem.Env} (h : plainT a = true) (whole : Sem Value) : isTrue a env whole = (do let v ← whole; standAt a.pos; holding [v] (truthy v)) := by
  cases a <;> first | rfl | cases h | skip
  rename_i op x p
  cases op <;> first | rfl | cases h
theorem fold_plain {a : Expr} {env : PySem.Env} (h : noSetD a = true) (x : Value) : foldedSetIterable a env x = pure x := by
  cases a <;> first | rfl | cases h
section
variable {S : Sta} {k : Nat} {X : Cx} {N : List Str} {sc : Scope} {Wx : WX} {pos : Pos}
/-! ### and, or, if -/
theorem and_imp (hK : S.G.k.K = X.K) {fa fb f : Env → Store → Res D} (hf : ∀ ρ st, f ρ st = (fa ρ st).bind fun x st1 => match truD x st1 with | some true => fb ρ st1 | some false => .ok x st1 | none => .bad) {σ : L2.St} {H : Hp} {Q : VK}
    (h : RT S Wx f σ H Q) : tAndT X.K (RT S Wx fa) (RT S Wx fb) σ H Q := by
  obtain ⟨W, ρ, st, r, h⟩ := h
  rw [hf] at h
  refine ⟨W, ρ, st, r, h.bind.mono fun W1 H1 d st1 x1 so1 h1 v1 r1 => ?_⟩
  split at h1
  · rename_i e
    exact ⟨true, tru_V hK so1 r1 e, show RT S Wx fb σ H1 Q from ⟨W1, ρ, st1, r.next x1 so1, h1⟩⟩
  · rename_i e
    exact ⟨false, tru_V hK so1 r1 e, show Q v1 H1 from h1 W1 H1 Ext.refl so1 v1 r1⟩
  · exact h1.elim
theorem or_imp (hK : S.G.k.K = X.K) {fa fb f : Env → Store → Res D} (hf : ∀ ρ st, f ρ st = (fa ρ st).bind fun x st1 => match truD x st1 with | some true => .ok x st1 | some false => fb ρ st1 | none => .bad) {σ : L2.St} {H : Hp} {Q : VK}
    (h : RT S Wx f σ H Q) : tOrT X.K (RT S Wx fa) (RT S Wx fb) σ H Q := by
  obtain ⟨W, ρ, st, r, h⟩ := h
  rw [hf] at h
  refine ⟨W, ρ, st, r, h.bind.mono fun W1 H1 d st1 x1 so1 h1 v1 r1 => ?_⟩
  split at h1
  · rename_i e
    exact ⟨true, tru_V hK so1 r1 e, show Q v1 H1 from h1 W1 H1 Ext.refl so1 v1 r1⟩
  · rename_i e
    exact ⟨false, tru_V hK so1 r1 e, show RT S Wx fb σ H1 Q from ⟨W1, ρ, st1, r.next x1 so1, h1⟩⟩
  · exact h1.elim
/-- a test that is a BoolOp -/
def SW (S : Sta) (X : Cx) (f : Env → Store → Res D) (e : Expr) : Prop := ∀ Wx, Takes X Wx → PW X e (RTT S Wx f)
theorem SW.st {f : Env → Store → Res D} {e : Expr} (h : SW S X f e) : ST S X f e := fun Wx tk => (h Wx tk).pt
theorem se_and1 {op : BoolOp} {f : Env → Store → Res D} {a : Expr} (ha : SE S X f a) : SE S X f (.BoolOp op [a] pos) := fun Wx tk => pe_one (ha Wx tk)
theorem sw_and1 {f : Env → Store → Res D} {a : Expr} (ha : ST S X f a) : SW S X f (.BoolOp .And [a] pos) := fun Wx tk => pw_and1 (ha Wx tk)
theorem sw_or1 {f : Env → Store → Res D} {a : Expr} (ha : ST S X f a) : SW S X f (.BoolOp .Or [a] pos) := fun Wx tk => pw_or1 (ha Wx tk)
theorem se_and (g : GX S k X N sc) {fa fb f : Env → Store → Res D} {a b : Expr} {r : List Expr} (ha : SE S X fa a) (hb : SE S X fb (.BoolOp .And (b :: r) pos)) (hf : ∀ ρ st, f ρ st = (fa ρ st).bind fun x st1 => match truD x st1 with | some true => fb ρ st1 | some false => .ok x st1 | none => .bad) :
    SE S X f (.BoolOp .And (a :: b :: r) pos) := fun Wx tk => pe_imp (pe_andT (ha Wx tk) (hb Wx tk)) fun _ _ _ h => and_imp g.K hf h
theorem se_or (g : GX S k X N sc) {fa fb f : Env → Store → Res D} {a b : Expr} {r : List Expr} (ha : SE S X fa a) (hb : SE S X fb (.BoolOp .Or (b :: r) pos)) (hf : ∀ ρ st, f ρ st = (fa ρ st).bind fun x st1 => match truD x st1 with | some true => .ok x st1 | some false => fb ρ st1 | none => .bad) :
    SE S X f (.BoolOp .Or (a :: b :: r) pos) := fun Wx tk => pe_imp (pe_orT (ha Wx tk) (hb Wx tk)) fun _ _ _ h => or_imp g.K hf h
theorem sw_and {fa fb f : Env → Store → Res D} {a b : Expr} {r : List Expr} (ha : ST S X fa a) (hb : SW S X fb (.BoolOp .And (b :: r) pos)) (hf : ∀ ρ st, f ρ st = (fa ρ st).bind fun x st1 => match truD x st1 with | some true => fb ρ st1 | some false => .ok x st1 | none => .bad) :
    SW S X f (.BoolOp .And (a :: b :: r) pos) := by
  intro Wx tk
  refine pw_imp (pw_and (ha Wx tk) (hb Wx tk)) fun σ H Q h => ?_
  obtain ⟨W, ρ, st, rl, h⟩ := h
  rw [hf] at h
  refine ⟨W, ρ, st, rl, h.bind.mono fun W1 H1 d st1 x1 so1 h1 => ?_⟩
  split at h1
  · rename_i e
    exact ⟨true, e, show RTT S Wx fb σ H1 Q from ⟨W1, ρ, st1, rl.next x1 so1, h1⟩⟩
  · rename_i e
    obtain ⟨c, h2, h3⟩ := h1 W1 H1 Ext.refl so1
    rw [e] at h2
    cases h2
    exact ⟨false, e, show Q false H1 from h3⟩
  · exact h1.elim
theorem sw_or {fa fb f : Env → Store → Res D} {a b : Expr} {r : List Expr} (ha : ST S X fa a) (hb : SW S X fb (.BoolOp .Or (b :: r) pos)) (hf : ∀ ρ st, f ρ st = (fa ρ st).bind fun x st1 => match truD x st1 with | some true => .ok x st1 | some false => fb ρ st1 | none => .bad) :
    SW S X f (.BoolOp .Or (a :: b :: r) pos) := by
  intro Wx tk
  refine pw_imp (pw_or (ha Wx tk) (hb Wx tk)) fun σ H Q h => ?_
  obtain ⟨W, ρ, st, rl, h⟩ := h
  rw [hf] at h
  refine ⟨W, ρ, st, rl, h.bind.mono fun W1 H1 d st1 x1 so1 h1 => ?_⟩
  split at h1
  · rename_i e
    obtain ⟨c, h2, h3⟩ := h1 W1 H1 Ext.refl so1
    rw [e] at h2
    cases h2
    exact ⟨true, e, show Q true H1 from h3⟩
  · rename_i e
    exact ⟨false, e, show RTT S Wx fb σ H1 Q from ⟨W1, ρ, st1, rl.next x1 so1, h1⟩⟩
  · exact h1.elim
theorem se_ite {fc fa fb f : Env → Store → Res D} {c a b : Expr} (hc : ST S X fc c) (ha : SE S X fa a) (hb : SE S X fb b) (hf : ∀ ρ st, f ρ st = (fc ρ st).bind fun x st1 => match truD x st1 with | some true => fa ρ st1 | some false => fb ρ st1 | none => .bad) :
    SE S X f (.IfExp c a b pos) := by
  intro Wx tk
  refine pe_imp (pe_ifExp (hc Wx tk) (ha Wx tk) (hb Wx tk)) fun σ H Q h => ?_
  obtain ⟨W, ρ, st, rl, h⟩ := h
  rw [hf] at h
  refine ⟨W, ρ, st, rl, h.bind.mono fun W1 H1 d st1 x1 so1 h1 => ?_⟩
  split at h1
  · rename_i e
    exact ⟨true, e, show RT S Wx fa σ H1 Q from ⟨W1, ρ, st1, rl.next x1 so1, h1⟩⟩
  · rename_i e
    exact ⟨false, e, show RT S Wx fb σ H1 Q from ⟨W1, ρ, st1, rl.next x1 so1, h1⟩⟩
  · exact h1.elim
theorem st_ite {fc fa fb f : Env → Store → Res D} {c a b : Expr} (hc : ST S X fc c) (ha : ST S X fa a) (hb : ST S X fb b) (hf : ∀ ρ st, f ρ st = (fc ρ st).bind fun x st1 => match truD x st1 with | some true => fa ρ st1 | some false => fb ρ st1 | none => .bad) :
    ST S X f (.IfExp c a b pos) := by
  intro Wx tk
  refine ⟨fun pins s σ H Q I h => isTrue_IfExp (thn ((hc Wx tk).run pins s σ H (fun b H1 => if b = true then RTT S Wx fa σ H1 Q else RTT S Wx fb σ H1 Q) I ?_) fun d s1 ⟨H1, I1, q1⟩ => ?_)⟩
  · obtain ⟨W, ρ, st, rl, h⟩ := h
    rw [hf] at h
    refine ⟨W, ρ, st, rl, h.bind.mono fun W1 H1 d st1 x1 so1 h1 => ?_⟩
    split at h1
    · rename_i e
      exact ⟨true, e, show RTT S Wx fa σ H1 Q from ⟨W1, ρ, st1, rl.next x1 so1, h1⟩⟩
    · rename_i e
      exact ⟨false, e, show RTT S Wx fb σ H1 Q from ⟨W1, ρ, st1, rl.next x1 so1, h1⟩⟩
    · exact h1.elim
  · cases d with
    | true => exact (ha Wx tk).run pins s1 σ H1 Q I1 q1
    | false => exact (hb Wx tk).run pins s1 σ H1 Q I1 q1
/-! ### arguments, displays -/
theorem sa_nil {f : Env → Store → Res (List D)} (hf : ∀ ρ st, f ρ st = .ok [] st) : SA S X f [] := by
  intro Wx tk
  refine pa_imp pa_nil fun σ H Q h => ?_
  obtain ⟨W, ρ, st, rl, h⟩ := h
  rw [hf] at h
  exact h W H Ext.refl rl.so [] .nil
theorem sa_cons {fa : Env → Store → Res D} {fr f : Env → Store → Res (List D)} {e : Expr} {es : List Expr} (ha : SE S X fa e) (hr : SA S X fr es) (hn : noStar e = true)
    (hf : ∀ ρ st, f ρ st = (fa ρ st).bind fun d st1 => (fr ρ st1).bind fun ds st2 => .ok (d :: ds) st2) : SA S X f (e :: es) := by
  intro Wx tk
  refine pa_imp (pa_cons (ha Wx tk) (hr Wx tk) (star_cons hn)) fun σ H Q h => ?_
  obtain ⟨W, ρ, st, rl, h⟩ := h
  rw [hf] at h
  refine ⟨W, ρ, st, rl, h.bind.mono fun W1 H1 d st1 x1 so1 h1 v1 r1 => ⟨W1, ρ, st1, rl.next x1 so1, h1.bind.mono fun W2 H2 ds st2 x2 so2 h2 vs r2 => ?_⟩⟩
  exact h2 W2 H2 Ext.refl so2 (v1 :: vs) (.cons (r1.ext x2) r2)
theorem se_tup {fa : Env → Store → Res (List D)} {f : Env → Store → Res D} {es : List Expr} {x1 : Nat} (ha : SA S X fa es) (hf : ∀ ρ st, f ρ st = (fa ρ st).bind fun ds st1 => if ds.length ≤ big then .ok (.tup ds) st1 else .bad) : SE S X f (.Tuple es x1 pos) := by
  intro Wx tk
  refine pe_imp (pe_tup (ha Wx tk)) fun σ H Q h => ?_
  obtain ⟨W, ρ, st, rl, h⟩ := h
  rw [hf] at h
  refine ⟨W, ρ, st, rl, h.bind.mono fun W1 H1 ds st1 x1 so1 h1 vs r1 => ?_⟩
  split at h1
  · rename_i hz
    exact ⟨by rw [← r1.length, ← big_eq]; exact hz, fun p hp => Out.newT so1 r1 (noex (fun _ _ z => nomatch z) h1) hp⟩
  · exact h1.elim
theorem se_lst {fa : Env → Store → Res (List D)} {f : Env → Store → Res D} {es : List Expr} (ha : SA S X fa es) (hf : ∀ ρ st, f ρ st = (fa ρ st).bind fun ds st1 => if ds.length ≤ big then .ok (.loc st1.length) (st1 ++ [.lst ds]) else .bad) : SE S X f (.List es pos) := by
  intro Wx tk
  refine pe_imp (pe_lst (ha Wx tk)) fun σ H Q h => ?_
  obtain ⟨W, ρ, st, rl, h⟩ := h
  rw [hf] at h
  refine ⟨W, ρ, st, rl, h.bind.mono fun W1 H1 ds st1 x1 so1 h1 vs r1 => ?_⟩
  split at h1
  · rename_i hz
    exact ⟨by rw [← r1.length, ← big_eq]; exact hz, fun p hp => Out.newL so1 r1 (noex (fun _ _ z => nomatch z) h1) hp⟩
  · exact h1.elim
/-! ### items, slices -/
theorem se_idx (g : GX S k X N sc) {fa fb f : Env → Store → Res D} {a b : Expr} (ha : SE S X fa a) (hb : SE S X fb b) (hs : noSlice b = true) (hf : ∀ ρ st, f ρ st = (fa ρ st).bind fun x st1 => (fb ρ st1).bind fun y st2 => ofD (idxD x y st2) st2) : SE S X f (.Subscript a b pos) := by
  intro Wx tk
  refine pe_imp (pe_ix (ix_ok g.K (by have := g.un; omega)) (ha Wx tk) (hb Wx tk) (ix_plain hs)) fun σ H Q h => ?_
  obtain ⟨W, ρ, st, r, h⟩ := h
  rw [hf] at h
  refine ⟨W, ρ, st, r, h.bind.mono fun W1 H1 d st1 x1 so1 h1 v1 r1 => ⟨W1, ρ, st1, r.next x1 so1, h1.bind.mono fun W2 H2 e st2 x2 so2 h2 v2 r2 => ?_⟩⟩
  cases e1 : idxD d e st2 with
  | none => rw [e1] at h2; exact h2.elim
  | some z => rw [e1] at h2; exact ⟨W2, st2, d, e, z, so2, r1.ext x2, r2, e1, fun v rv => h2 W2 H2 Ext.refl so2 v rv⟩
/-- a part of a slice -/
def RTO (S : Sta) (Wx : WX) (f : Env → Store → Res D) : TO := fun σ H Q => ∃ W ρ st, Rl S W ρ st σ H ∧ Aft S Wx σ W H (f ρ st) (fun W' H' d _ => ∀ o, partD d = some o → Q o H')
def SO (S : Sta) (X : Cx) (f : Env → Store → Res D) (e : Option Expr) : Prop := ∀ Wx, Takes X Wx → PO X e (RTO S Wx f)
theorem po_imp {e : Option Expr} {t t' : TO} (h : PO X e t) (f : ∀ σ H Q, t' σ H Q → t σ H Q) : PO X e t' := ⟨fun pins s σ H Q I q => h.run pins s σ H Q I (f σ H Q q)⟩
theorem so_none {f : Env → Store → Res D} (hf : ∀ ρ st, f ρ st = .ok .non st) : SO S X f none := by
  intro Wx tk
  refine po_imp po_none fun σ H Q h => ?_
  obtain ⟨W, ρ, st, r, h⟩ := h
  rw [hf] at h
  exact h W H Ext.refl r.so none rfl
theorem so_some {fa f : Env → Store → Res D} {e : Expr} (ha : SE S X fa e) (hf : ∀ ρ st, f ρ st = (fa ρ st).bind fun d st => match d with | .int i => .ok (.int i) st | _ => .bad) : SO S X f (some e) := by
  intro Wx tk
  refine po_imp (po_some (ha Wx tk)) fun σ H Q h => ?_
  obtain ⟨W, ρ, st, r, h⟩ := h
  rw [hf] at h
  refine ⟨W, ρ, st, r, h.bind.mono fun W1 H1 d st1 x1 so1 h1 v1 r1 => ?_⟩
  split at h1
  · cases r1
    exact ⟨_, rfl, h1 W1 H1 Ext.refl so1 _ rfl⟩
  · exact h1.elim
theorem slD_noex (d l h : D) (st : Store) (ex : Ex) (st' : Store) : slD d l h st ≠ .exc ex st' := by
  intro e
  simp only [slD] at e
  (repeat' split at e) <;> cases e
theorem slD_parts {d l h : D} {st : Store} {r : Res D} (e : slD d l h st = r) (hr : r ≠ .bad) : ∃ a b, partD l = some a ∧ partD h = some b := by
  cases h1 : partD l with
  | none => rw [slD, h1] at e; exact absurd e.symm hr
  | some a =>
    cases h2 : partD h with
    | none => rw [slD, h1, h2] at e; exact absurd e.symm hr
    | some b => exact ⟨a, b, rfl, rfl⟩
theorem se_sl (g : GX S k X N sc) {fa fl fh f : Env → Store → Res D} {a : Expr} {lo hi : Option Expr} {p2 : Pos} (ha : SE S X fa a) (hl : SO S X fl lo) (hh : SO S X fh hi)
    (hf : ∀ ρ st, f ρ st = (fa ρ st).bind fun x st1 => (fl ρ st1).bind fun l st2 => (fh ρ st2).bind fun h st3 => slD x l h st3) : SE S X f (.Subscript a (.Slice lo hi none p2) pos) := by
  intro Wx tk
  refine pe_imp (pe_slice (sl_ok g.K) (ha Wx tk) (hl Wx tk) (hh Wx tk)) fun σ H Q h => ?_
  obtain ⟨W, ρ, st, r, h⟩ := h
  rw [hf] at h
  refine ⟨W, ρ, st, r, h.bind.mono fun W1 H1 d st1 x1 so1 h1 v1 r1 => ⟨W1, ρ, st1, r.next x1 so1, h1.bind.mono fun W2 H2 l st2 x2 so2 h2 o1 e1 => ⟨W2, ρ, st2, (r.next x1 so1).next x2 so2, h2.bind.mono fun W3 H3 u st3 x3 so3 h3 o2 e2 => ?_⟩⟩⟩
  exact ⟨W3, st3, d, l, u, so3, (r1.ext x2).ext x3, e1, e2, noex (slD_noex d l u st3) h3⟩
end
end MM
end

section
set_option Elab.async false
set_option linter.all false
set_option maxRecDepth 100000
set_option maxHeartbeats 4000000
/-! MMSE3: calls, built-ins, methods, isinstance, f-strings, displays of dicts. -/
namespace MM
open PySem L2 PyProof.Rows
/-- the names that the text uses -/
structure Tb where
  bs : List Bf
  ts : List Ty
  gs : List (Str × D)
structure TbOk (G : Gam) (tb : Tb) : Prop where
  bs : ∀ b ∈ tb.bs, (b = .bgcd → G.mg "gcd" = some (.builtin "math.gcd")) ∧ (b ≠ .bgcd → G.mg (bfName b) = none)
  ts : ∀ t ∈ tb.ts, match t with | .own c => ∃ C, G.k.cls c = some C ∧ G.mg c = some (.ref C) | t => G.mg (tyName t) = none
  gs : ∀ p ∈ tb.gs, ∃ v u, G.mg p.1 = some u ∧ RelV v u ∧ ∀ W H, Rep G.k W H p.2 v
  isi : G.mg "isinstance" = none
  rng : G.mg "range" = none
  zip : G.mg "zip" = none
  enm : G.mg "enumerate" = none
def tyNm : Ty → Str
  | .own c => c
  | .int => "int" | .bool => "bool" | .str => "str" | .tuple => "tuple" | .list => "list" | .dict => "dict"
/-- the promise of a def -/
def spD (G : Gam) (xs : Excs) (g : Env → List D → Store → Res D) : Sp := fun vs H Q E => ∃ ρ W st ds, StOk G W st H ∧ Reps G.k W H ds vs ∧ match g ρ ds st with
  | .ok d st' => ∀ W' H' v, Ext W H W' H' → StOk G W' st' H' → Rep G.k W' H' d v → Q v H'
  | .exc e st' => ∀ W' H' cls dd, Ext W H W' H' → StOk G W' st' H' → ExOk G xs W' H' e cls dd → E cls dd H'
  | .bad => False
/-- a def keeps its promise (nothing is being shown around) -/
structure FnG (P : Program) (w : World) (K : PySem.W.Frag) (mg : Str → Option Value) (base : Heap) (CX : CXT) (k : Nat) (f : Addr) (fd : FuncData) (ps : List Str) (sp : Sp) : Prop where
  len : ∀ vs H Q E, sp vs H Q E → vs.length = ps.length
  run : ∀ (A : Around) (outer : List PySem.Env) (s : Shared) (H : Hp) (args : Args) (us : List Value) (vs : List V) (Q : VK) (E : XK), Room k A → A.guards = some [] → Env0 P w K mg base A outer s H → BindsTo s fd args (ps.zip us) → Vals vs us → sp vs H Q E →
    codeAny (model P w) A (.call (.ref f) args) (CR CX outer P w H s Q E) s
theorem run_fnG {X : Cx} {CX : CXT} {k : Nat} {f : Addr} {fd : FuncData} {ps : List Str} {sp : Sp} {E : XK} {pins : List (Addr × Obj)} {σ : L2.St} {H : Hp} {s : Shared} {Q : VK} {us : List Value} {vs : List V} (F : FnG X.prog X.w X.K X.mg X.base CX k f fd ps sp) (hr : Room k X.A) (hgd : X.A.guards = some [])
    (hb : Binds X.K fd ps []) (hx : PassesAt CX X σ E) (I : Inv X pins σ H s) (r : Vals vs us) (h : sp vs H Q E) : wpAny (model X.prog X.w) X.A (call (.ref f) us) (EP X pins σ Q) X.xe s := by
  have hl : us.length = ps.length := r.length.symm.trans (F.len _ _ _ _ h)
  have b := hb s us I.kIn ((congrArg List.length (List.append_nil us)).trans hl)
  rw [List.append_nil] at b
  refine wpAny_call (codeAny_mono (F.run X.A X.stack s H ⟨us, []⟩ us vs Q E hr hgd I.env0 b r h) fun res s' hq => ?_)
  match res, hq with
  | .error e, hq => exact hx pins H s e s' I hq
  | .ok (.ret u), hq => exact I.after hq
/-- the defs, to the depth k -/
structure DefAt (S : Sta) (k : Nat) (x : Str) (g : Env → List D → Store → Res D) : Prop where
  ex : ∃ f fd ps, S.G.mg x = some (.ref f) ∧ PySem.W.keepIn S.G.k.K (.ref f) = true ∧ Binds S.G.k.K fd ps [] ∧ FnG S.G.P S.G.w S.G.k.K S.G.mg S.G.base (L2.CX S.G.P S.G.w) k f fd ps (spD S.G S.xs g)
theorem bf_boot (b : Bf) (h : b ≠ .bgcd) : bootBuiltins (bfName b) = some (bfVal b) := by
  cases b <;> first | (exact absurd rfl h) | decide +kernel
theorem ty_boot (t : Ty) (h : ∀ c, t ≠ .own c) : bootBuiltins (tyNm t) = some (.type (tyName t)) := by
  cases t <;> first | (exact absurd rfl (h _)) | decide +kernel
theorem bf_nm (b : Bf) : bfName b ≠ "__name__" ∧ (bfName b == ("__debug__" : Str)) = false := by cases b <;> exact ⟨by decide, by decide⟩
theorem ty_nm (t : Ty) (h : ∀ c, t ≠ .own c) : tyNm t ≠ "__name__" ∧ (tyNm t == ("__debug__" : Str)) = false := by
  cases t <;> first | (exact absurd rfl (h _)) | exact ⟨by decide, by decide⟩
section
variable {S : Sta} {k : Nat} {X : Cx} {N : List Str} {sc : Scope} {Wx : WX} {pos p : Pos} {tb : Tb}
theorem call_imp {g : Env → List D → Store → Res D} {fa : Env → Store → Res (List D)} {f : Env → Store → Res D} (hf : ∀ ρ st, f ρ st = (fa ρ st).bind fun ds st1 => g ρ ds st1) {σ : L2.St} {H : Hp} {Q : VK} (h : RT S Wx f σ H Q) :
    RTA S Wx fa σ H fun vs H1 => spD S.G S.xs g vs H1 Q (WE Wx σ) := by
  obtain ⟨W, ρ, st, r, h⟩ := h
  rw [hf] at h
  refine ⟨W, ρ, st, r, h.bind.mono fun W1 H1 ds st1 x1 so1 h1 vs r1 => ⟨ρ, W1, st1, ds, so1, r1, ?_⟩⟩
  cases e : g ρ ds st1 with
  | ok d st' => rw [e] at h1; intro W2 H2 v x2 so2 r2; exact h1 W2 H2 x2 so2 v r2
  | exc ex st' => rw [e] at h1; intro W2 H2 cls dd x2 so2 q; exact h1 W2 H2 cls dd x2 so2 q
  | bad => rw [e] at h1; exact h1.elim
theorem se_call (g : GX S k X N sc) (hc : X.calm = true) {x : Str} {gg : Env → List D → Store → Res D} {fa : Env → Store → Res (List D)} {f : Env → Store → Res D} {e : Expr} {es : List Expr} (hd : DefAt S k x gg) (hg : Gl X x) (hx : (x == ("__debug__" : Str)) = false) (ha : SA S X fa (e :: es)) (hs : (e :: es).all noStar = true)
    (hf : ∀ ρ st, f ρ st = (fa ρ st).bind fun ds st1 => gg ρ ds st1) : SE S X f (.Call (.Name x p) (e :: es) [] pos) := by
  intro Wx tk
  obtain ⟨fn, fd, ps, h1, h2, h3, h4⟩ := hd.ex
  rw [← g.mg] at h1
  rw [g.K] at h2 h3
  rw [← g.prog, ← g.w, ← g.mg, ← g.base, g.K] at h4
  simp only [List.all_cons, Bool.and_eq_true] at hs
  refine ⟨fun pins s σ H Q I h => wpAny_Call_Name_kw (ld_glob I hg h1 ?_ hx)⟩
  refine PySem.W.callWith_K (h₀ := X.base) I.ok.mod.kin h2 (thn ((ha Wx tk).run pos pins s σ H _ I (call_imp hf h)) fun us s1 ⟨vs, H1, I1, r, q⟩ => ⟨I1.kIn, ?_⟩) (star_cons hs.1) (star_any hs.2)
  exact run_fnG h4 (g.cm hc) g.gd h3 (passAt tk σ) I1 r q
theorem se_call0 (g : GX S k X N sc) (hc : X.calm = true) {x : Str} {gg : Env → List D → Store → Res D} {f : Env → Store → Res D} (hd : DefAt S k x gg) (hg : Gl X x) (hx : (x == ("__debug__" : Str)) = false)
    (hf : ∀ ρ st, f ρ st = gg ρ [] st) : SE S X f (.Call (.Name x p) [] [] pos) := by
  intro Wx tk
  obtain ⟨fn, fd, ps, h1, h2, h3, h4⟩ := hd.ex
  rw [← g.mg] at h1
  rw [g.K] at h2 h3
  rw [← g.prog, ← g.w, ← g.mg, ← g.base, g.K] at h4
  refine ⟨fun pins s σ H Q I h => ?_⟩
  refine wpAny_Call_Name_kw (ld_glob I hg h1 ?_ hx)
  refine PySem.W.callWith_K0 I.kIn h2 ?_
  obtain ⟨W, ρ, st, r, h⟩ := h
  rw [hf] at h
  refine run_fnG (us := []) (vs := []) (E := WE Wx σ) h4 (g.cm hc) g.gd h3 (passAt tk σ) I .nil ⟨ρ, W, st, [], r.so, .nil, ?_⟩
  cases e : gg ρ [] st with
  | ok d st' => rw [e] at h; intro W2 H2 v x2 so2 r2; exact h W2 H2 x2 so2 v r2
  | exc ex st' => rw [e] at h; intro W2 H2 cls dd x2 so2 q; exact h W2 H2 cls dd x2 so2 q
  | bad => rw [e] at h; exact h.elim
/-! ### built-in functions -/
theorem bltD_noex (b : Bf) (ds : List D) (st : Store) (ex : Ex) (st' : Store) : bltD b ds st ≠ .exc ex st' := by
  intro e
  unfold bltD at e
  (repeat' split at e) <;> cases e
theorem blt_imp {b : Bf} {fa : Env → Store → Res (List D)} {f : Env → Store → Res D} (hf : ∀ ρ st, f ρ st = (fa ρ st).bind fun ds st1 => bltD b ds st1) {σ : L2.St} {H : Hp} {Q : VK} (h : RT S Wx f σ H Q) : tCB (rBlt S.G b) (RTA S Wx fa) σ H Q := by
  obtain ⟨W, ρ, st, r, h⟩ := h
  rw [hf] at h
  exact ⟨W, ρ, st, r, h.bind.mono fun W1 H1 ds st1 x1 so1 h1 vs r1 => ⟨W1, st1, ds, so1, r1, noex (bltD_noex b ds st1) h1⟩⟩
theorem se_blt0 (g : GX S k X N sc) (T : TbOk S.G tb) {b : Bf} (hr : CallR X (bfVal b) (rBlt S.G b)) (hb : b ∈ tb.bs) {fa : Env → Store → Res (List D)} {f : Env → Store → Res D} {e : Expr} {es : List Expr} (hg : Gl X (bfName b)) (ha : SA S X fa (e :: es)) (hs : (e :: es).all noStar = true)
    (hf : ∀ ρ st, f ρ st = (fa ρ st).bind fun ds st1 => bltD b ds st1) : SE S X f (.Call (.Name (bfName b) p) (e :: es) [] pos) := by
  intro Wx tk
  simp only [List.all_cons, Bool.and_eq_true] at hs
  obtain ⟨t1, t2⟩ := T.bs b hb
  rw [← g.mg] at t1 t2
  have st := star_cons (env := X.env) (es := es) hs.1
  have sa := star_any (pos := pos) (env := X.env) hs.2
  obtain ⟨n1, n2⟩ := bf_nm b
  have bb := bf_boot b
  cases b with
  | bint => exact pe_imp (pe_callTy hr hg (t2 (by decide)) (bb (by decide)) (ha Wx tk) n1 n2 st sa) fun σ H Q h => blt_imp hf h
  | bstr => exact pe_imp (pe_callTy hr hg (t2 (by decide)) (bb (by decide)) (ha Wx tk) n1 n2 st sa) fun σ H Q h => blt_imp hf h
  | blist => exact pe_imp (pe_callTy hr hg (t2 (by decide)) (bb (by decide)) (ha Wx tk) n1 n2 st sa) fun σ H Q h => blt_imp hf h
  | btuple => exact pe_imp (pe_callTy hr hg (t2 (by decide)) (bb (by decide)) (ha Wx tk) n1 n2 st sa) fun σ H Q h => blt_imp hf h
  | bgcd => exact pe_imp (pe_callBfun hr hg (t1 rfl) (ha Wx tk) n2 st sa) fun σ H Q h => blt_imp hf h
  | blen => exact pe_imp (pe_callB hr hg (t2 (by decide)) (bb (by decide)) (ha Wx tk) n1 n2 st sa) fun σ H Q h => blt_imp hf h
  | babs => exact pe_imp (pe_callB hr hg (t2 (by decide)) (bb (by decide)) (ha Wx tk) n1 n2 st sa) fun σ H Q h => blt_imp hf h
  | ball => exact pe_imp (pe_callB hr hg (t2 (by decide)) (bb (by decide)) (ha Wx tk) n1 n2 st sa) fun σ H Q h => blt_imp hf h
  | bany => exact pe_imp (pe_callB hr hg (t2 (by decide)) (bb (by decide)) (ha Wx tk) n1 n2 st sa) fun σ H Q h => blt_imp hf h
  | brepr => exact pe_imp (pe_callB hr hg (t2 (by decide)) (bb (by decide)) (ha Wx tk) n1 n2 st sa) fun σ H Q h => blt_imp hf h
  | bsum => exact pe_imp (pe_callB hr hg (t2 (by decide)) (bb (by decide)) (ha Wx tk) n1 n2 st sa) fun σ H Q h => blt_imp hf h
  | bmin => exact pe_imp (pe_callB hr hg (t2 (by decide)) (bb (by decide)) (ha Wx tk) n1 n2 st sa) fun σ H Q h => blt_imp hf h
  | bmax => exact pe_imp (pe_callB hr hg (t2 (by decide)) (bb (by decide)) (ha Wx tk) n1 n2 st sa) fun σ H Q h => blt_imp hf h
/-! ### methods -/
theorem methD_noex (m : Mt) (o : D) (ds : List D) (st : Store) (ex : Ex) (st' : Store) : methD m o ds st ≠ .exc ex st' := by
  intro e
  unfold methD at e
  (repeat' split at e) <;> cases e
theorem se_meth (g : GX S k X N sc) {m : Mt} {fo f : Env → Store → Res D} {fa : Env → Store → Res (List D)} {o e : Expr} {es : List Expr} {apos : Pos} (ho : SE S X fo o) (ha : SA S X fa (e :: es)) (hs : (e :: es).all noStar = true) (hb : noCall0 o = true) (hl : (apos.endLine == pos.line) = true) (hn : (e :: es).length < 30)
    (hf : ∀ ρ st, f ρ st = (fo ρ st).bind fun x st1 => if recvD m x st1 = true then (fa ρ st1).bind fun ds st2 => methD m x ds st2 else .bad) : SE S X f (.Call (.Attribute o (mtN m) apos) (e :: es) [] pos) := by
  intro Wx tk
  have hs' := hs
  simp only [List.all_cons, Bool.and_eq_true] at hs
  refine pe_imp (pe_bm (mt_pa m) (mt_slot m) (mt_ty m) (mt_ok g.calm m) (ho Wx tk) (ha Wx tk) (att_plain hb) ?_ hl (star_cons hs.1) (star_any hs.2)) fun σ H Q h => ?_
  · rw [star_all hs']
    simp only [Bool.true_and, Bool.and_eq_true, decide_eq_true_eq]
    exact ⟨rfl, by simpa using hn⟩
  · obtain ⟨W, ρ, st, r, h⟩ := h
    rw [hf] at h
    refine ⟨W, ρ, st, r, h.bind.mono fun W1 H1 d st1 x1 so1 h1 v1 r1 => ?_⟩
    split at h1
    · rename_i hr
      exact ⟨recv_V g.K so1 r1 hr, W1, ρ, st1, r.next x1 so1, h1.bind.mono fun W2 H2 ds st2 x2 so2 h2 vs r2 => ⟨W2, st2, d, ds, so2, r1.ext x2, r2, noex (methD_noex m d ds st2) h2⟩⟩
    · exact h1.elim
theorem se_meth0 (g : GX S k X N sc) {m : Mt} {fo f : Env → Store → Res D} {o : Expr} {apos : Pos} (ho : SE S X fo o) (hb : noCall0 o = true) (hl : (apos.endLine == pos.line) = true)
    (hf : ∀ ρ st, f ρ st = (fo ρ st).bind fun x st1 => if recvD m x st1 = true then methD m x [] st1 else .bad) : SE S X f (.Call (.Attribute o (mtN m) apos) [] [] pos) := by
  intro Wx tk
  refine pe_imp (pe_bm0 (mt_pa m) (mt_slot m) (mt_ty m) (mt_ok g.calm m) (ho Wx tk) (att_plain hb) hl) fun σ H Q h => ?_
  obtain ⟨W, ρ, st, r, h⟩ := h
  rw [hf] at h
  refine ⟨W, ρ, st, r, h.bind.mono fun W1 H1 d st1 x1 so1 h1 v1 r1 => ?_⟩
  split at h1
  · rename_i hr
    exact ⟨recv_V g.K so1 r1 hr, W1, st1, d, [], so1, r1, .nil, noex (methD_noex m d [] st1) h1⟩
  · exact h1.elim
/-! ### isinstance -/
theorem pe_ty (g : GX S k X N sc) (T : TbOk S.G tb) {t : Ty} (ht : t ∈ tb.ts) (hg : Gl X (tyNm t)) (hd : (tyNm t == ("__debug__" : Str)) = false) : ∃ c u, TyV S.G t c u ∧ PE X (.Name (tyNm t) p) (tC c) := by
  have h := T.ts t ht
  have bb := ty_boot t
  have nn := ty_nm t
  rw [← g.mg] at h
  cases t with
  | own c => obtain ⟨C, h1, h2⟩ := h; exact ⟨_, _, .own h1, pe_glob hg h2 rfl hd⟩
  | int => exact ⟨_, _, .int, pe_bltn hg h (bb fun _ z => nomatch z) rfl (nn fun _ z => nomatch z).1 hd⟩
  | bool => exact ⟨_, _, .bool, pe_bltn hg h (bb fun _ z => nomatch z) rfl (nn fun _ z => nomatch z).1 hd⟩
  | str => exact ⟨_, _, .str, pe_bltn hg h (bb fun _ z => nomatch z) rfl (nn fun _ z => nomatch z).1 hd⟩
  | tuple => exact ⟨_, _, .tuple, pe_bltn hg h (bb fun _ z => nomatch z) rfl (nn fun _ z => nomatch z).1 hd⟩
  | list => exact ⟨_, _, .list, pe_bltn hg h (bb fun _ z => nomatch z) rfl (nn fun _ z => nomatch z).1 hd⟩
  | dict => exact ⟨_, _, .dict, pe_bltn hg h (bb fun _ z => nomatch z) rfl (nn fun _ z => nomatch z).1 hd⟩
theorem se_isin1 (g : GX S k X N sc) (T : TbOk S.G tb) {t : Ty} (ht : t ∈ tb.ts) {fa f : Env → Store → Res D} {a : Expr} {p2 : Pos} (hg : Gl X "isinstance") (hgt : Gl X (tyNm t)) (hdt : (tyNm t == ("__debug__" : Str)) = false) (ha : SE S X fa a) (hn : noStar a = true)
    (hf : ∀ ρ st, f ρ st = (fa ρ st).bind fun x st1 => ofB (isTys [t] x st1) st1) : SE S X f (.Call (.Name "isinstance" p) [a, .Name (tyNm t) p2] [] pos) := by
  intro Wx tk
  obtain ⟨c, u, tv, pt⟩ := pe_ty (p := p2) g T ht hgt hdt
  have pa : PA X [a, .Name (tyNm t) p2] (tCons (RT S Wx fa) (tCons (tC c) tNil)) := pa_cons (ha Wx tk) (pa_cons pt pa_nil rfl) (star_cons hn)
  refine pe_imp (pe_callB call_isi hg (by rw [g.mg]; exact T.isi) (by decide +kernel) pa (by decide) (by decide) (star_cons hn) rfl) fun σ H Q h => ?_
  obtain ⟨W, ρ, st, r, h⟩ := h
  rw [hf] at h
  refine ⟨W, ρ, st, r, h.bind.mono fun W1 H1 d st1 x1 so1 h1 v1 r1 => ?_⟩
  cases e : isTys [t] d st1 with
  | none => rw [e] at h1; exact h1.elim
  | some b =>
    rw [e] at h1
    obtain ⟨ty, hty, ho⟩ := rep_ty g.K g.cls so1 r1
    have e2 : isTy t d st1 = some b := by
      simp only [isTys] at e
      split at e
      · rename_i x y hx hy
        cases hy
        simpa [hx] using e
      · cases e
    exact ⟨v1, c, ty, u, b, rfl, tv.cls, hty, ho _ _ _ _ tv e2, h1 W1 H1 Ext.refl so1 _ (.bl b)⟩
/-- the types of a written tuple -/
theorem pa_tys (g : GX S k X N sc) (T : TbOk S.G tb) : ∀ {ts : List Ty} {es : List Expr}, (∀ t ∈ ts, t ∈ tb.ts ∧ Gl X (tyNm t) ∧ (tyNm t == ("__debug__" : Str)) = false) → Paired (fun (t : Ty) (e : Expr) => ∃ p, e = .Name (tyNm t) p) ts es →
    ∃ cs us, ts.length = cs.length ∧ Paired (fun (p : Ty × V) u => TyV S.G p.1 p.2 u) (ts.zip cs) us ∧ Paired ClsV cs us ∧ PA X es (fun _ H Q => Q cs H)
  | [], _, _, .nil => ⟨[], [], rfl, .nil, .nil, pa_imp pa_nil fun _ _ _ h => h⟩
  | t :: ts, _, h, .cons ⟨p, e⟩ r => by
    subst e
    obtain ⟨h1, h2, h3⟩ := h t List.mem_cons_self
    obtain ⟨c, u, tv, pt⟩ := pe_ty (p := p) g T h1 h2 h3
    obtain ⟨cs, us, q1, q2, q3, q4⟩ := pa_tys g T (fun t' ht' => h t' (List.mem_cons_of_mem _ ht')) r
    exact ⟨c :: cs, u :: us, by simp [q1], .cons tv q2, .cons tv.cls q3, pa_imp (pa_cons pt q4 rfl) fun _ _ _ h => h⟩
theorem se_isinT (g : GX S k X N sc) (T : TbOk S.G tb) {ts : List Ty} {fa f : Env → Store → Res D} {a : Expr} {es : List Expr} {p2 : Pos} {k2 : Nat} (h0 : ts ≠ []) (ht : ∀ t ∈ ts, t ∈ tb.ts ∧ Gl X (tyNm t) ∧ (tyNm t == ("__debug__" : Str)) = false) (hp : Paired (fun (t : Ty) (e : Expr) => ∃ p, e = .Name (tyNm t) p) ts es) (hg : Gl X "isinstance") (hz : ts.length ≤ 100) (ha : SE S X fa a) (hn : noStar a = true)
    (hf : ∀ ρ st, f ρ st = (fa ρ st).bind fun x st1 => ofB (isTys ts x st1) st1) : SE S X f (.Call (.Name "isinstance" p) [a, .Tuple es k2 p2] [] pos) := by
  intro Wx tk
  obtain ⟨cs, us, q1, q2, q3, q4⟩ := pa_tys g T ht hp
  have pa : PA X [a, .Tuple es k2 p2] (tCons (RT S Wx fa) (tCons (tTup (fun _ H Q => Q cs H)) tNil)) := pa_cons (ha Wx tk) (pa_cons (pe_tup q4) pa_nil rfl) (star_cons hn)
  refine pe_imp (pe_callB call_isiT hg (by rw [g.mg]; exact T.isi) (by decide +kernel) pa (by decide) (by decide) (star_cons hn) rfl) fun σ H Q h => ?_
  obtain ⟨W, ρ, st, r, h⟩ := h
  rw [hf] at h
  refine ⟨W, ρ, st, r, h.bind.mono fun W1 H1 d st1 x1 so1 h1 v1 r1 => ⟨by rw [← q1, sizeLine_eq]; omega, fun q hq => ?_⟩⟩
  cases e : isTys ts d st1 with
  | none => rw [e] at h1; exact h1.elim
  | some b =>
    rw [e] at h1
    have so2 := so1.new (o := .tup cs) hq
    have x2 : Ext W1 H1 W1 (upd H1 q (.tup cs)) := Ext.new hq
    obtain ⟨ty, hty, ho⟩ := rep_ty g.K g.cls so2 (r1.ext x2)
    exact ⟨v1, q, cs, ty, us, b, rfl, upd_same, q3, hty, isTys_any g.K ho q2 q1 e, h1 W1 _ x2 so2 _ (.bl b)⟩
end
end MM
end

section
set_option Elab.async false
set_option linter.all false
set_option maxRecDepth 100000
set_option maxHeartbeats 4000000
/-! MMSE4: f-strings, dict displays, targets, iterators, comprehensions. -/
namespace MM
open PySem L2 PyProof.Rows
def locB (sc : Scope) (x : Str) : Bool := match sc.names.lookup x with | some .local => true | some .cell => true | _ => false
def visB (sc : Scope) (x : Str) : Bool := match sc.names.lookup x with | some .local => true | some .cell => true | some .free => true | _ => false
def gloB (sc : Scope) (x : Str) : Bool := match sc.names.lookup x with | some .globalImplicit => true | _ => false
theorem locB_ok {sc : Scope} {x : Str} (h : locB sc x = true) : Loc sc x := by
  unfold locB at h
  split at h
  · rename_i e; exact .inl e
  · rename_i e; exact .inr e
  · cases h
theorem visB_ok {sc : Scope} {x : Str} (h : visB sc x = true) : Vis sc x := by
  unfold visB at h
  split at h
  · rename_i e; exact .inl e
  · rename_i e; exact .inr (.inl e)
  · rename_i e; exact .inr (.inr e)
  · cases h
theorem gloB_ok {sc : Scope} {x : Str} (h : gloB sc x = true) : sc.names.lookup x = some .globalImplicit := by
  unfold gloB at h
  split at h
  · rename_i e; exact e
  · cases h
section
variable {S : Sta} {k : Nat} {X : Cx} {N : List Str} {sc : Scope} {Wx : WX} {pos p : Pos} {tb : Tb}
/-! ### f-strings -/
def RTF (S : Sta) (Wx : WX) (f : Env → Store → Res D) : TE := fun σ H Q => ∃ W ρ st, Rl S W ρ st σ H ∧ Aft S Wx σ W H (f ρ st) (fun W' H' d _ => ∃ x, fmtD d = some x ∧ Q (.str x) H')
def RTS (S : Sta) (Wx : WX) (f : Env → Store → Res Str) : L2.St → Hp → (Str → Hp → Prop) → Prop := fun σ H Q => ∃ W ρ st, Rl S W ρ st σ H ∧ Aft S Wx σ W H (f ρ st) (fun W' H' x _ => Q x H')
def SF (S : Sta) (X : Cx) (f : Env → Store → Res D) (e : Expr) : Prop := ∀ Wx, Takes X Wx → PE X e (RTF S Wx f)
def SFs (S : Sta) (X : Cx) (f : Str → Env → Store → Res Str) (es : List Expr) : Prop := ∀ Wx, Takes X Wx → ∃ ts, PJ X es ts ∧ ∀ acc σ H Q, RTS S Wx (f acc) σ H Q → tJs ts acc σ H Q
theorem sf_con {x : Str} {j : Nat} {f : Env → Store → Res D} (hf : ∀ ρ st, f ρ st = .ok (.str x) st) : SF S X f (.Constant (.str x) j pos) := by
  intro Wx tk
  refine pe_imp pe_str fun σ H Q h => ?_
  obtain ⟨W, ρ, st, r, h⟩ := h
  rw [hf] at h
  obtain ⟨y, h1, h2⟩ := h W H Ext.refl r.so
  simp only [fmtD] at h1
  split at h1
  · cases h1; exact h2
  · cases h1
theorem sf_fmt {f : Env → Store → Res D} {e : Expr} (h : SE S X f e) : SF S X f (.FormattedValue e (-1) none pos) := by
  intro Wx tk
  refine pe_imp (pe_fmt (h Wx tk)) fun σ H Q h => ?_
  obtain ⟨W, ρ, st, r, h⟩ := h
  refine ⟨W, ρ, st, r, h.mono fun W1 H1 d st1 x1 so1 ⟨y, h1, h2⟩ v rv => ?_⟩
  rcases fmt_V rv h1 with ⟨z, e1, e2, e3⟩ | ⟨i, e1, e2, e3⟩
  · subst e3; exact .inl ⟨_, e1, e2, h2⟩
  · subst e3; exact .inr ⟨_, e1, e2, h2⟩
theorem sfs_nil {f : Str → Env → Store → Res Str} (hf : ∀ acc ρ st, f acc ρ st = .ok acc st) : SFs S X f [] := by
  intro Wx tk
  refine ⟨[], .nil, fun acc σ H Q h => ?_⟩
  obtain ⟨W, ρ, st, r, h⟩ := h
  rw [hf] at h
  exact h W H Ext.refl r.so
theorem sfs_cons {fa : Env → Store → Res D} {fr f : Str → Env → Store → Res Str} {e : Expr} {es : List Expr} (ha : SF S X fa e) (hr : SFs S X fr es)
    (hf : ∀ acc ρ st, f acc ρ st = (fa ρ st).bind fun d st1 => match fmtD d with | some x => if acc.length + x.length ≤ big then fr (acc ++ x) ρ st1 else .bad | none => .bad) : SFs S X f (e :: es) := by
  intro Wx tk
  obtain ⟨ts, h1, h2⟩ := hr Wx tk
  refine ⟨_ :: ts, .cons (ha Wx tk) h1, fun acc σ H Q h => ?_⟩
  obtain ⟨W, ρ, st, r, h⟩ := h
  rw [hf] at h
  refine ⟨W, ρ, st, r, h.bind.mono fun W1 H1 d st1 x1 so1 h3 => ?_⟩
  cases e1 : fmtD d with
  | none => rw [e1] at h3; exact h3.elim
  | some x =>
    rw [e1] at h3
    simp only at h3
    split at h3
    · rename_i hz
      exact ⟨x, rfl, x, rfl, by rw [Str.length_append, ← big_eq]; exact hz, h2 _ _ _ _ ⟨W1, ρ, st1, r.next x1 so1, h3⟩⟩
    · exact h3.elim
theorem se_fstr {ff : Str → Env → Store → Res Str} {f : Env → Store → Res D} {a b : Expr} {r : List Expr} (h : SFs S X ff (a :: b :: r)) (hf : ∀ ρ st, f ρ st = (ff Str.empty ρ st).bind fun x st1 => .ok (.str x) st1) : SE S X f (.JoinedStr (a :: b :: r) pos) := by
  intro Wx tk
  obtain ⟨ts, h1, h2⟩ := h Wx tk
  refine pe_imp (pe_joined h1) fun σ H Q h => h2 _ _ _ _ ?_
  obtain ⟨W, ρ, st, r, h⟩ := h
  rw [hf] at h
  exact ⟨W, ρ, st, r, h.bind.mono fun W1 H1 x st1 x1 so1 h1 => h1 W1 H1 Ext.refl so1 _ (.str x)⟩
/-! ### dict displays -/
def RTP (S : Sta) (Wx : WX) (f : Env → Store → Res (List (Sum Int Str × D))) : L2.St → Hp → (List (V × V) → Hp → Prop) → Prop := fun σ H Q => ∃ W ρ st, Rl S W ρ st σ H ∧ Aft S Wx σ W H (f ρ st) (fun W' H' kvs _ => ∀ vs, Reps S.G.k W' H' (kvs.map (·.2)) vs → Q ((kvs.map fun p => kV p.1).zip vs) H')
def SP' (S : Sta) (X : Cx) (pos : Pos) (f : Env → Store → Res (List (Sum Int Str × D))) (ks : List (Option Expr)) (vs : List Expr) : Prop := ∀ Wx, Takes X Wx → ∃ trs, PPs X pos ks vs trs ∧ ∀ σ H Q, RTP S Wx f σ H Q → tPairs trs σ H Q
theorem sp_nil {f : Env → Store → Res (List (Sum Int Str × D))} (hf : ∀ ρ st, f ρ st = .ok [] st) : SP' S X pos f [] [] := by
  intro Wx tk
  refine ⟨[], pps_nil, fun σ H Q h => ?_⟩
  obtain ⟨W, ρ, st, r, h⟩ := h
  rw [hf] at h
  exact h W H Ext.refl r.so [] .nil
theorem sp_cons {k : Sum Int Str} {fa : Env → Store → Res D} {fr f : Env → Store → Res (List (Sum Int Str × D))} {ke e : Expr} {ks : List (Option Expr)} {vs : List Expr} (hk : PE X ke (tC (kV k))) (ha : SE S X fa e) (hr : SP' S X pos fr ks vs)
    (hf : ∀ ρ st, f ρ st = (fa ρ st).bind fun y st2 => (fr ρ st2).bind fun r st3 => .ok ((k, y) :: r) st3) : SP' S X pos f (some ke :: ks) (e :: vs) := by
  intro Wx tk
  obtain ⟨trs, h1, h2⟩ := hr Wx tk
  refine ⟨_ :: trs, pps_cons hk (ha Wx tk) h1, fun σ H Q h => ?_⟩
  obtain ⟨W, ρ, st, r, h⟩ := h
  rw [hf] at h
  refine ⟨W, ρ, st, r, h.bind.mono fun W1 H1 d st1 x1 so1 h3 v1 r1 => h2 _ _ _ ⟨W1, ρ, st1, r.next x1 so1, h3.bind.mono fun W2 H2 kvs st2 x2 so2 h4 ws r2 => ?_⟩⟩
  exact h4 W2 H2 Ext.refl so2 (v1 :: ws) (.cons (r1.ext x2) r2)
theorem key_rep {K : Kl} {W : List Addr} {H : Hp} {d : D} {v : V} {k : Sum Int Str} (r : Rep K W H d v) (h : keyD d = some k) : v = kV k := by
  cases r <;> simp [keyD] at h <;> subst h <;> rfl
theorem sp_consE {fk fa : Env → Store → Res D} {fr f : Env → Store → Res (List (Sum Int Str × D))} {ke e : Expr} {ks : List (Option Expr)} {vs : List Expr} (hk : SE S X fk ke) (ha : SE S X fa e) (hr : SP' S X pos fr ks vs)
    (hf : ∀ ρ st, f ρ st = (fk ρ st).bind fun d st1 => match keyD d with | some k => (fa ρ st1).bind fun y st2 => (fr ρ st2).bind fun r st3 => .ok ((k, y) :: r) st3 | none => .bad) : SP' S X pos f (some ke :: ks) (e :: vs) := by
  intro Wx tk
  obtain ⟨trs, h1, h2⟩ := hr Wx tk
  refine ⟨_ :: trs, pps_cons (hk Wx tk) (ha Wx tk) h1, fun σ H Q h => ?_⟩
  obtain ⟨W, ρ, st, r, h⟩ := h
  rw [hf] at h
  refine ⟨W, ρ, st, r, h.bind.mono fun W0 H0 d0 st0 x0 so0 h0 v0 r0 => ?_⟩
  cases ek : keyD d0 with
  | none => rw [ek] at h0; exact h0.elim
  | some k =>
    rw [ek] at h0
    have ev := key_rep r0 ek
    subst ev
    refine ⟨W0, ρ, st0, r.next x0 so0, h0.bind.mono fun W1 H1 d st1 x1 so1 h3 v1 r1 => h2 _ _ _ ⟨W1, ρ, st1, (r.next x0 so0).next x1 so1, h3.bind.mono fun W2 H2 kvs st2 x2 so2 h4 ws r2 => ?_⟩⟩
    exact h4 W2 H2 Ext.refl so2 (v1 :: ws) (.cons (r1.ext x2) r2)
theorem zipK : ∀ {kvs : List (Sum Int Str × D)} {vs : List V}, kvs.length = vs.length → (kvs.map fun p => kV p.1).zip vs = ((kvs.map (·.1)).zip vs).map (fun kv => (kV kv.1, kv.2))
  | [], [], _ => rfl
  | _ :: r, _ :: vs, h => by
    simp only [List.map_cons, List.zip_cons_cons]
    rw [zipK (kvs := r) (vs := vs) (by simpa using h)]
  | [], _ :: _, h => by simp at h
  | _ :: _, [], h => by simp at h
theorem merge_V {K : Kl} {W : List Addr} {H : Hp} : ∀ {kvs : List (Sum Int Str × D)} {vs : List V} {acc : List (D × D)} {acc' : List (Key × V)}, Reps K W H (kvs.map (·.2)) vs → DicR K W H acc acc' →
    DicR K W H (kvs.foldl (fun acc p => putK p.1 p.2 acc) acc) (mergeK acc' ((kvs.map (·.1)).zip vs))
  | [], _, _, _, .nil, h => h
  | q :: r, _, _, _, .cons h1 h2, h => by
    simp only [List.map_cons, List.zip_cons_cons, List.foldl_cons]
    exact merge_V (kvs := r) h2 (put_V h1 h)
theorem se_dic {fp : Env → Store → Res (List (Sum Int Str × D))} {f : Env → Store → Res D} {ks : List (Option Expr)} {vs : List Expr} (h : SP' S X pos fp ks vs) (ha : ks.all (·.isSome) = true) (hl : ks.length = vs.length) (h0 : ks ≠ []) (h15 : ks.length ≤ 15)
    (hf : ∀ ρ st, f ρ st = (fp ρ st).bind fun kvs st1 => if kvs.length ≤ 15 then .ok (.loc st1.length) (st1 ++ [.dic (kvs.foldl (fun acc p => putK p.1 p.2 acc) [])]) else .bad) : SE S X f (.Dict ks vs pos) := by
  intro Wx tk
  obtain ⟨trs, h1, h2⟩ := h Wx tk
  refine pe_imp (pe_disp h1 ha hl h0 h15) fun σ H Q h p hp => h2 _ _ _ ?_
  obtain ⟨W, ρ, st, r, h⟩ := h
  have x0 : Ext W H W (upd H p (.dK [])) := Ext.new hp
  have so0 := r.so.new (o := .dK []) hp
  rw [hf] at h
  have h' : Aft S Wx σ W (upd H p (.dK [])) (fp ρ st) (fun W1 H1 kvs st1 => Ext W H W1 H1 ∧ Aft S Wx σ W H (if kvs.length ≤ 15 then .ok (.loc st1.length) (st1 ++ [.dic (kvs.foldl (fun acc p => putK p.1 p.2 acc) [])]) else .bad) (fun W' H' d _ => ∀ v, Rep S.G.k W' H' d v → Q v H')) := by
    have hb := h.bind2
    cases e : fp ρ st with
    | ok a st' => rw [e] at hb; intro W1 H1 x1 so1; exact ⟨x0.trans x1, hb W1 H1 (x0.trans x1) so1⟩
    | exc ex st' => rw [e] at hb; intro W1 H1 cls dd x1 so1 q; exact hb W1 H1 cls dd (x0.trans x1) so1 q
    | bad => rw [e] at hb; exact hb.elim
  refine ⟨W, ρ, st, r.next x0 so0, h'.mono fun W1 H1 kvs st1 x1 so1 h3 ws r1 => ?_⟩
  obtain ⟨x2, h3⟩ := h3
  split at h3
  · rename_i hz
    obtain ⟨q1, q2⟩ := x1.off_keep (p := p) (r.so.fresh hp) upd_same rfl
    have hln : kvs.length = ws.length := by have := r1.length; simpa using this
    refine ⟨q2, (kvs.map (·.1)).zip ws, zipK hln, by simp; omega, ?_⟩
    have off : Off W1 H1 p := ⟨q1, fun u hu => by rw [q2] at hu; cases hu; rfl⟩
    have so2 := so1.off (o := .dK (mergeK [] ((kvs.map (·.1)).zip ws))) off
    have x3 := x2.off0 (o := .dK (mergeK [] ((kvs.map (·.1)).zip ws))) hp
    refine h3 (W1 ++ [p]) _ (x3.adopt hp) (so2.adopt (fun C dx gs z => by rw [upd_same] at z; cases z) q1 ⟨_, upd_same, ?_⟩) _ (.loc ?_)
    · exact (merge_V (r1.mor (off.mor _)) .nil).imp fun _ _ r => r.mor (app_mor (fun C dx gs z => by rw [upd_same] at z; cases z) _)
    · rw [← so2.len]; exact push_at W1 p
  · exact h3.elim
theorem se_dic0 {f : Env → Store → Res D} (hf : ∀ ρ st, f ρ st = .ok (.loc st.length) (st ++ [.dic []])) : SE S X f (.Dict [] [] pos) := by
  intro Wx tk
  refine pe_imp pe_dnewK fun σ H Q h p hp => ?_
  obtain ⟨W, ρ, st, r, h⟩ := h
  rw [hf] at h
  refine h (W ++ [p]) _ (Ext.push hp) (r.so.push hp ⟨[], upd_same, .nil⟩) _ (.loc ?_)
  rw [← r.so.len]; exact push_at W p
/-! ### targets -/
def gNs : List Nat → TGs
  | [] => gNil
  | i :: is => gCons (gName i) (gNs is)
def gOf (K : PySem.W.Frag) : Tg → TG
  | .n i => gName i
  | .t is => gTup K is.length (gNs is)
def tgIs : Tg → List Nat
  | .n i => [i]
  | .t is => is
theorem wipe_at {σ : L2.St} {j : Nat} : ∀ {vs : List Nat}, (L2.wipe σ vs)[j]? = if j ∈ vs then (if j < σ.length then some none else none) else σ[j]?
  | [] => by simp [L2.wipe]
  | v :: vs => by
    have ih := wipe_at (σ := σ) (j := j) (vs := vs)
    have hl : (L2.wipe σ vs).length = σ.length := wipe_length σ vs
    unfold L2.wipe
    by_cases hv : v = j
    · subst hv
      simp only [List.mem_cons, true_or, if_true]
      rw [List.getElem?_set]
      simp [hl]
    · rw [List.getElem?_set_ne hv, ih]
      have : (j ∈ v :: vs) ↔ j ∈ vs := ⟨fun h => (List.mem_cons.mp h).elim (fun e => absurd e.symm hv) id, List.mem_cons_of_mem _⟩
      simp only [this]
theorem wipe_put {σ : L2.St} {i : Nat} {v : Option V} {vs : List Nat} (h : i ∈ vs) : L2.wipe (σ.set i v) vs = L2.wipe σ vs := by
  apply List.ext_getElem?
  intro j
  rw [wipe_at, wipe_at, List.length_set]
  by_cases hj : j ∈ vs
  · simp [hj]
  · simp only [hj, if_false]
    exact List.getElem?_set_ne fun e => hj (by rw [← e]; exact h)
theorem asgN_ok {K : Kl} {W : List Addr} {H : Hp} : ∀ {is : List Nat} {ds : List D} {vs : List V} {ρ ρ1 : Env} {σ : L2.St}, asgN is ds ρ = some ρ1 → EnvOk K W H ρ σ → Reps K W H ds vs →
    ∃ σ1, EnvOk K W H ρ1 σ1 ∧ (∀ own : List Nat, (∀ i ∈ is, i ∈ own) → L2.wipe σ1 own = L2.wipe σ own) ∧ ∀ Q : L2.St → Hp → Prop, Q σ1 H → gNs is vs σ H Q
  | [], [], _, ρ, _, σ, h, e, .nil => by
    simp only [asgN, Option.some.injEq] at h
    subst h
    exact ⟨σ, e, fun _ _ => rfl, fun Q q => ⟨rfl, q⟩⟩
  | i :: is, d :: ds, _, ρ, _, σ, h, e, .cons (v := v) r rr => by
    simp only [asgN] at h
    obtain ⟨σ1, h1, h2, h3⟩ := asgN_ok (is := is) h (e.set r) rr
    refine ⟨σ1, h1, fun own ho => ?_, fun Q q => ⟨_, _, rfl, h3 Q q⟩⟩
    rw [h2 own fun j hj => ho j (List.mem_cons_of_mem _ hj), wipe_put (ho i List.mem_cons_self)]
  | [], _ :: _, _, _, _, _, h, _, _ => by simp [asgN] at h
  | _ :: _, [], _, _, _, _, h, _, _ => by simp [asgN] at h
theorem asgN_len : ∀ {is : List Nat} {ds : List D} {ρ ρ1 : Env}, asgN is ds ρ = some ρ1 → is.length = ds.length
  | [], [], _, _, _ => rfl
  | _ :: is, _ :: ds, _, _, h => by
    simp only [asgN] at h
    simp [asgN_len (is := is) h]
  | [], _ :: _, _, _, h => by simp [asgN] at h
  | _ :: _, [], _, _, h => by simp [asgN] at h
theorem asgTg_ok {K : Kl} {W : List Addr} {H : Hp} {t : Tg} {d : D} {v : V} {ρ ρ1 : Env} {σ : L2.St} (h : asgTg t d ρ = some ρ1) (e : EnvOk K W H ρ σ) (r : Rep K W H d v) :
    ∃ σ1, EnvOk K W H ρ1 σ1 ∧ (∀ own : List Nat, (∀ i ∈ tgIs t, i ∈ own) → L2.wipe σ1 own = L2.wipe σ own) ∧ ∀ Q : L2.St → Hp → Prop, Q σ1 H → gOf K.K t v σ H Q := by
  cases t with
  | n i =>
    simp only [asgTg, Option.some.injEq] at h
    subst h
    exact ⟨_, e.set r, fun own ho => wipe_put (ho i (by simp [tgIs])), fun Q q => q⟩
  | t is =>
    simp only [asgTg] at h
    split at h
    · cases r with
      | tup hs rr =>
        obtain ⟨σ1, h1, h2, h3⟩ := asgN_ok h e rr
        exact ⟨σ1, h1, h2, fun Q q => ⟨_, _, rfl, hs, by rw [← rr.length, asgN_len h], h3 Q q⟩⟩
    · cases h
/-- which cells are stored to: all, none, a block's own -/
abbrev yesC : Str → Bool := fun _ => true
abbrev noC : Str → Bool := fun _ => false
abbrev ownC (scope : Scope) : Str → Bool := fun x => scope.names.lookup x == some .cell
/-- a name that is stored to: a local, or (cel) a cell -/
def stoB (cel : Str → Bool) (sc : Scope) (x : Str) : Bool := match sc.names.lookup x with | some .local => true | some .cell => cel x | _ => false
theorem stoB_ok {cel : Str → Bool} {sc : Scope} {x : Str} (h : stoB cel sc x = true) : Loc sc x ∧ (cel x = true ∨ sc.names.lookup x = some .local) := by
  unfold stoB at h
  split at h
  · rename_i e; exact ⟨.inl e, .inr e⟩
  · rename_i e; exact ⟨.inr e, .inl h⟩
  · cases h
def CelOk (X : Cx) (cel : Str → Bool) : Prop := ∀ x, cel x = true → X.env.scope.names.lookup x = some .cell → X.fn x = true
def tgN (N : List Str) (cel : Str → Bool) (sc : Scope) (i : Nat) : Expr → Bool
  | .Name x _ => decide (N[i]? = some x) && stoB cel sc x
  | _ => false
def tgNs (N : List Str) (cel : Str → Bool) (sc : Scope) : List Nat → List Expr → Bool
  | [], [] => true
  | i :: is, e :: es => tgN N cel sc i e && tgNs N cel sc is es
  | _, _ => false
def tgB (N : List Str) (cel : Str → Bool) (sc : Scope) : Tg → Expr → Bool
  | .n i, e => tgN N cel sc i e
  | .t is, .Tuple es _ _ => tgNs N cel sc is es
  | _, _ => false
theorem sto_fn (g : GX S k X N sc) {cel : Str → Bool} (hfn : CelOk X cel) {x : Str} (h : stoB cel sc x = true) : Loc X.env.scope x ∧ (X.fn x = true ∨ X.env.scope.names.lookup x = some .local) := by
  obtain ⟨h1, h2⟩ := stoB_ok h
  rw [← g.sc] at h1 h2
  refine ⟨h1, ?_⟩
  rcases h2 with h2 | h2
  · rcases h1 with z | z
    · exact .inr z
    · exact .inl (hfn _ h2 z)
  · exact .inr h2
theorem pg_n (g : GX S k X N sc) {cel : Str → Bool} (hfn : CelOk X cel) {i : Nat} {e : Expr} (h : tgN N cel sc i e = true) : PG X e (gName i) := by
  cases e <;> first | (simp [tgN] at h; done) | skip
  simp only [tgN, Bool.and_eq_true, decide_eq_true_eq] at h
  obtain ⟨h1, h2⟩ := sto_fn g hfn h.2
  exact pg_name (by rw [g.nm]; exact g.nd) (by rw [g.nm]; exact h.1) h1 h2
theorem pgs_ns (g : GX S k X N sc) {cel : Str → Bool} (hfn : CelOk X cel) : ∀ {is : List Nat} {es : List Expr}, tgNs N cel sc is es = true → PGs X es (gNs is) ∧ (assignEach es X.env).length = is.length ∧ (assignEach es X.env).all (fun q => !q.1) = true
  | [], [], _ => ⟨pgs_nil, rfl, rfl⟩
  | i :: is, e :: es, h => by
    simp only [tgNs, Bool.and_eq_true] at h
    obtain ⟨h1, h2, h3⟩ := pgs_ns g hfn h.2
    have hn := h.1
    have pg := pg_n g hfn hn
    cases e <;> first | (simp [tgN] at hn; done) | skip
    exact ⟨pgs_cons pg h1 rfl, by show _ + 1 = _ + 1; rw [h2], by show (!false && _) = true; rw [h3]; rfl⟩
  | [], _ :: _, h => by simp [tgNs] at h
  | _ :: _, [], h => by simp [tgNs] at h
theorem pg_of (g : GX S k X N sc) {cel : Str → Bool} (hfn : CelOk X cel) (hc : X.calm = true) {t : Tg} {e : Expr} (h : tgB N cel sc t e = true) : PG X e (gOf X.K t) := by
  cases t with
  | n i => exact pg_n g hfn h
  | t is =>
    cases e <;> first | (simp [tgB] at h; done) | skip
    obtain ⟨h1, h2, h3⟩ := pgs_ns g hfn (show tgNs N cel sc is _ = true from h)
    refine pg_tup hc h1 h2 ?_
    rw [List.findIdx?_eq_none_iff]
    intro x hx
    have := List.all_eq_true.mp h3 x hx
    simpa using this
/-! ### iterators -/
def ItOk (G : Gam) (p : Src) (W0 : List Addr) (H0 : Hp) (J : L2.It) : Prop := ∀ W1 H1 st1, Ext W0 H0 W1 H1 → StOk G W1 st1 H1 → wOk p.2 st1 → ∀ i,
  (∀ d, p.1[i]? = some d → J.go i H1 ∧ ∀ x H', J.yld i H1 x H' → Ext W1 H1 W1 H' ∧ StOk G W1 st1 H' ∧ Rep G.k W1 H' d x) ∧ (p.1.length ≤ i → J.stop i H1)
theorem ItOk.of {G : Gam} {p : Src} {W0 : List Addr} {H0 : Hp} {J : L2.It} (h : ∀ W1 H1 st1, Ext W0 H0 W1 H1 → StOk G W1 st1 H1 → wOk p.2 st1 → ∃ vs, Reps G.k W1 H1 p.1 vs ∧ ∀ i, (i < vs.length → J.go i H1 ∧ ∀ x H', J.yld i H1 x H' → H' = H1 ∧ vs[i]? = some x) ∧ (vs.length ≤ i → J.stop i H1)) : ItOk G p W0 H0 J := by
  intro W1 H1 st1 x1 so1 lk i
  obtain ⟨vs, rv, it⟩ := h W1 H1 st1 x1 so1 lk
  have hl := rv.length
  refine ⟨fun d hd => ?_, fun hi => (it i).2 (by omega)⟩
  have hlt : i < vs.length := by rw [← hl]; exact (List.getElem?_eq_some_iff.mp hd).1
  obtain ⟨go, yld⟩ := (it i).1 hlt
  refine ⟨go, fun x H' y => ?_⟩
  obtain ⟨rfl, hx⟩ := yld x H' y
  obtain ⟨v, h1, h2⟩ := rv.get hd
  rw [h1] at hx
  cases hx
  exact ⟨Ext.refl, so1, h2⟩
def RTI (S : Sta) (Wx : WX) (f : Env → Store → Res Src) : TI := fun σ H R => ∃ W ρ st, Rl S W ρ st σ H ∧ Aft S Wx σ W H (f ρ st) (fun W' H' p _ => ∀ J, ItOk S.G p W' H' J → R J H')
def SI (S : Sta) (X : Cx) (f : Env → Store → Res Src) (tg iter : Expr) : Prop := ∀ Wx, Takes X Wx → PI X tg iter (RTI S Wx f)
theorem itl_vs {K : PySem.W.Frag} {H : Hp} {a : Addr} {vs : List V} (h : SqL K H a vs) (i : Nat) : (i < vs.length → (Itl K a).go i H ∧ ∀ x H', (Itl K a).yld i H x H' → H' = H ∧ vs[i]? = some x) ∧ (vs.length ≤ i → (Itl K a).stop i H) :=
  ⟨fun hi => ⟨⟨vs, vs[i], h, List.getElem?_eq_getElem hi⟩, fun x H' ⟨e, y⟩ => ⟨e, y vs h⟩⟩, fun hi => ⟨vs, h, hi⟩⟩
theorem itt_vs {K : PySem.W.Frag} {H : Hp} {a : Addr} {vs : List V} (h : SqT K H a vs) (i : Nat) : (i < vs.length → (Itt K a).go i H ∧ ∀ x H', (Itt K a).yld i H x H' → H' = H ∧ vs[i]? = some x) ∧ (vs.length ≤ i → (Itt K a).stop i H) :=
  ⟨fun hi => ⟨⟨vs, vs[i], h, List.getElem?_eq_getElem hi⟩, fun x H' ⟨e, y⟩ => ⟨e, y vs h⟩⟩, fun hi => ⟨vs, h, hi⟩⟩
theorem src_lst {G : Gam} {W W1 W2 : List Addr} {H H1 : Hp} {st1 st2 : Store} {n : Nat} {a : Addr} {xs : List D} {vs : List V} (so1 : StOk G W1 st1 H1) (so2 : StOk G W2 st2 H1) (hp : W2 <+: W1) (e1 : st1[n]? = some (.lst xs)) (ha : W1[n]? = some a) (hv : H1 a = some (.lst vs)) (hr : Reps G.k W2 H1 xs vs) :
    ItOk G (xs, if n < st2.length then [(n, xs)] else []) W2 H1 (Itl G.k.K a) := by
  refine .of fun W3 H3 st3 x3 so3 hw => ?_
  by_cases hn : n < st2.length
  · rw [if_pos hn] at hw
    have h3 : st3[n]? = some (.lst xs) := hw (n, xs) (by simp)
    have ha2 : W2[n]? = some a := by
      obtain ⟨t, rfl⟩ := hp
      rw [List.getElem?_append_left (by rw [so2.len]; exact hn)] at ha
      exact ha
    obtain ⟨ws, q1, q2⟩ := cell_lst so3 h3 (x3.get ha2)
    exact ⟨ws, q2, itl_vs (SqL.of q1)⟩
  · have hout : a ∉ W2 := fun hm => by
      obtain ⟨m, hm⟩ := List.mem_iff_getElem?.mp hm
      have hlt : m < st2.length := by rw [← so2.len]; exact (List.getElem?_eq_some_iff.mp hm).1
      have hm1 : W1[m]? = some a := by
        obtain ⟨t, rfl⟩ := hp
        rw [List.getElem?_append_left (List.getElem?_eq_some_iff.mp hm).1]
        exact hm
      have hl1 : m < st1.length := by rw [← so1.len]; exact (List.getElem?_eq_some_iff.mp hm1).1
      have q := so1.cell m _ a (List.getElem?_eq_getElem hl1) hm1
      have inj := so1.inj n m a _ _ ha hm1 e1 (List.getElem?_eq_getElem hl1) rfl
      cases e : st1[m] with
      | lst ys => rw [e] at inj; have := inj rfl; omega
      | dic ys => rw [e] at inj; have := inj rfl; omega
      | ins c fs => rw [e] at inj; have := inj rfl; omega
      | rol ys => rw [e] at q; obtain ⟨_, ⟨o, z⟩, _⟩ := q; rw [hv] at z; cases z
    exact ⟨vs, hr.ext x3, itl_vs (SqL.of (x3.keep a _ hv hout (fun _ z => nomatch z)))⟩
theorem si_e (g : GX S k X N sc) {tg : Expr} {fa : Env → Store → Res D} {f : Env → Store → Res Src} {a : Expr} (ha : SE S X fa a) (hf : ∀ ρ st, f ρ st = (fa ρ st).bind fun d st1 => srcOf st d st1) : SI S X f tg a := by
  intro Wx tk
  refine ⟨fun pins s σ H R I h => ?_⟩
  obtain ⟨W, ρ, st, r, h⟩ := h
  rw [hf] at h
  have hK := g.K
  cases e : fa ρ st with
  | exc ex st1 =>
    rw [e] at h
    exact (pi_list (tg := tg) (ha Wx tk)).run pins s σ H R I ⟨W, ρ, st, r, by rw [e]; exact h⟩
  | bad => rw [e] at h; exact h.elim
  | ok d st1 =>
    rw [e] at h
    simp only [Res.bind_ok] at h
    unfold srcOf at h
    cases d with
    | tup xs =>
      refine (pi_tup (tg := tg) (ha Wx tk)).run pins s σ H R I ⟨W, ρ, st, r, ?_⟩
      rw [e]
      intro W1 H1 x1 so1 v rv
      cases rv with
      | @tup b vs _ hs hr =>
        obtain ⟨W2, x2, so2, _, h5, _⟩ := gc_ok (l := D.lims xs) r.so x1 so1
        rw [← hK]
        refine ⟨b, rfl, ⟨vs, hs⟩, h W2 H1 x2 so2 _ (.of fun W3 H3 st3 x3 so3 _ => ⟨vs, (h5 _ _ (Nat.le_refl _) hr).ext x3, itt_vs (x3.sqT hs)⟩)⟩
    | str z =>
      simp only at h
      split at h
      · rename_i hz
        refine (pi_str (tg := tg) (ha Wx tk)).run pins s σ H R I ⟨W, ρ, st, r, ?_⟩
        rw [e]
        intro W1 H1 x1 so1 v rv
        cases rv
        obtain ⟨W2, x2, so2, _, _, _⟩ := gc_ok (l := 0) r.so x1 so1
        refine ⟨z, rfl, h W2 H1 x2 so2 _ (.of fun W3 H3 st3 x3 so3 _ => ⟨z.cps.toList.map fun c => V.str ⟨#[c]⟩, ?_, fun i => ⟨fun hi => ⟨by show i < z.cps.size; simpa using hi, fun x H' y => ?_⟩, fun hi => by show z.cps.size ≤ i; simpa using hi⟩⟩)⟩
        · clear h
          induction z.cps.toList with
          | nil => exact .nil
          | cons c r ih => exact .cons (.str _) ih
        · obtain ⟨e1, c, e2, e3⟩ := y
          refine ⟨e1, ?_⟩
          subst e3
          simp [e2]
      · exact h.elim
    | loc n =>
      simp only at h
      cases e1 : st1[n]? with
      | none => rw [e1] at h; exact h.elim
      | some c =>
        rw [e1] at h
        refine (pi_list (tg := tg) (ha Wx tk)).run pins s σ H R I ⟨W, ρ, st, r, ?_⟩
        rw [e]
        intro W1 H1 x1 so1 v rv
        cases rv with
        | @loc _ b hb =>
          cases c with
          | lst xs =>
            obtain ⟨vs, q1, q2⟩ := cell_lst so1 e1 hb
            obtain ⟨W2, x2, so2, _, h5, h6⟩ := gc_ok (l := D.lims xs) r.so x1 so1
            rw [← hK]
            exact ⟨b, rfl, ⟨vs, SqL.of q1⟩, h W2 H1 x2 so2 _ (src_lst (W := W) (H := H) so1 so2 h6 e1 hb q1 (h5 _ _ (Nat.le_refl _) q2))⟩
          | rol xs =>
            obtain ⟨vs, ⟨o, q1⟩, q2⟩ := so1.cell _ _ _ e1 hb
            rw [← hK]
            exact ⟨b, rfl, ⟨vs, .inl (.inr ⟨o, q1⟩)⟩, h W1 H1 x1 so1 _ (.of fun W3 H3 st3 x3 so3 _ => ⟨vs, q2.ext x3, itl_vs (.inl (.inr ⟨o, x3.frzs _ _ _ q1⟩))⟩)⟩
          | dic _ => exact h.elim
          | ins _ _ => exact h.elim
    | fl xs =>
      refine (pi_list (tg := tg) (ha Wx tk)).run pins s σ H R I ⟨W, ρ, st, r, ?_⟩
      rw [e]
      intro W1 H1 x1 so1 v rv
      cases rv with
      | @fl b o vs _ hs hr =>
        obtain ⟨W2, x2, so2, _, h5, _⟩ := gc_ok (l := D.lims xs) r.so x1 so1
        rw [← hK]
        exact ⟨b, rfl, ⟨vs, .inl (.inr ⟨o, hs⟩)⟩, h W2 H1 x2 so2 _ (.of fun W3 H3 st3 x3 so3 _ => ⟨vs, (h5 _ _ (Nat.le_refl _) hr).ext x3, itl_vs (.inl (.inr ⟨o, x3.frzs _ _ _ hs⟩))⟩)⟩
    | obj _ _ _ => exact h.elim
    | non => exact h.elim
    | bl _ => exact h.elim
    | int _ => exact h.elim
theorem range_vs {K : Kl} {W : List Addr} {H : Hp} (lo : Int) (n : Nat) : ∃ vs, Reps K W H (range0 lo n) vs ∧ vs = (List.range n).map fun (i : Nat) => V.int (lo + (i : Int)) := by
  refine ⟨_, ?_, rfl⟩
  unfold range0
  induction List.range n with
  | nil => exact .nil
  | cons c r ih => exact .cons (.int _) ih
theorem itr_ok {G : Gam} {W : List Addr} {H : Hp} (lo : Int) (n : Nat) : ItOk G (range0 lo n, []) W H (Itr lo n) := by
  refine .of fun W1 H1 st1 _ _ _ => ?_
  obtain ⟨vs, h1, h2⟩ := range_vs (K := G.k) (W := W1) (H := H1) lo n
  refine ⟨vs, h1, fun i => ⟨fun hi => ⟨?_, fun x H' y => ?_⟩, fun hi => ?_⟩⟩
  · subst h2; show i < n; simpa using hi
  · obtain ⟨e1, e2⟩ := y
    subst h2
    simp at hi
    exact ⟨e1, by simp [hi, e2]⟩
  · subst h2; show n ≤ i; simpa using hi
theorem si_rng1 (g : GX S k X N sc) {tg : Expr} (T : TbOk S.G tb) {fa : Env → Store → Res D} {f : Env → Store → Res Src} {a : Expr} (hg : Gl X "range") (ha : SE S X fa a) (hs : noStar a = true) (hf : ∀ ρ st, f ρ st = (fa ρ st).bind fun d st1 => rng1D d st1) : SI S X f tg (.Call (.Name "range" p) [a] [] pos) := by
  intro Wx tk
  have sa : SA S X (fun ρ st => (fa ρ st).bind fun d st1 => (Res.ok [] st1 : Res (List D)).bind fun ds st2 => .ok (d :: ds) st2) [a] := sa_cons ha (sa_nil fun _ _ => rfl) hs fun _ _ => rfl
  refine ⟨fun pins s σ H R I h => (pi_range1 hg (by rw [g.mg]; exact T.rng) (sa Wx tk) (star_cons hs)).run pins s σ H R I ?_⟩
  obtain ⟨W, ρ, st, r, h⟩ := h
  rw [hf] at h
  refine ⟨W, ρ, st, r, ?_⟩
  have h' := h.bind
  show Aft S Wx σ W H ((fa ρ st).bind _) _
  cases e : fa ρ st with
  | exc ex st1 => rw [e] at h'; exact h'
  | bad => rw [e] at h'; exact h'
  | ok d st1 =>
    rw [e] at h'
    intro W1 H1 x1 so1 vs rv
    have h1 : Aft S Wx σ W1 H1 (rng1D d st1) (fun W' H' p _ => ∀ J, ItOk S.G p W' H' J → R J H') := h' W1 H1 x1 so1
    obtain ⟨w, rfl, rw1⟩ := reps1 rv
    unfold rng1D at h1
    split at h1
    · cases rw1
      split at h1
      · rename_i hz
        exact ⟨_, rfl, hz.1, hz.2, h1 W1 H1 Ext.refl so1 _ (itr_ok 0 _)⟩
      · exact h1.elim
    · exact h1.elim
theorem si_rng2 (g : GX S k X N sc) {tg : Expr} (T : TbOk S.G tb) {fa fb : Env → Store → Res D} {f : Env → Store → Res Src} {a b : Expr} (hg : Gl X "range") (ha : SE S X fa a) (hb : SE S X fb b) (hs : noStar a = true) (hs2 : noStar b = true)
    (hf : ∀ ρ st, f ρ st = (fa ρ st).bind fun d st1 => (fb ρ st1).bind fun e st2 => rng2D d e st2) : SI S X f tg (.Call (.Name "range" p) [a, b] [] pos) := by
  intro Wx tk
  have sb : SA S X (fun ρ st => (fb ρ st).bind fun d st1 => (Res.ok [] st1 : Res (List D)).bind fun ds st2 => .ok (d :: ds) st2) [b] := sa_cons hb (sa_nil fun _ _ => rfl) hs2 fun _ _ => rfl
  have sa : SA S X (fun ρ st => (fa ρ st).bind fun d st1 => ((fb ρ st1).bind fun d st1 => (Res.ok [] st1 : Res (List D)).bind fun ds st2 => .ok (d :: ds) st2).bind fun ds st2 => .ok (d :: ds) st2) [a, b] := sa_cons ha sb hs fun _ _ => rfl
  have st2' : starEach [b] X.env = [(false, eval b X.env)] := star_cons hs2
  have st1' : starEach [a, b] X.env = [(false, eval a X.env), (false, eval b X.env)] := by rw [star_cons hs, st2']
  refine ⟨fun pins s σ H R I h => (pi_range2 hg (by rw [g.mg]; exact T.rng) (sa Wx tk) st1' st2').run pins s σ H R I ?_⟩
  obtain ⟨W, ρ, st, r, h⟩ := h
  rw [hf] at h
  refine ⟨W, ρ, st, r, ?_⟩
  have h' := h.bind2
  show Aft S Wx σ W H ((fa ρ st).bind _) _
  cases e : fa ρ st with
  | exc ex st1 => rw [e] at h'; exact h'
  | bad => rw [e] at h'; exact h'
  | ok d st1 =>
    rw [e] at h'
    simp only [Res.bind_ok]
    have h2 : Aft S Wx σ W H ((fb ρ st1).bind fun e st2 => rng2D d e st2) (fun W' H' p _ => ∀ J, ItOk S.G p W' H' J → R J H') := by rw [e] at h; exact h
    have h3 := h2.bind2
    cases e2 : fb ρ st1 with
    | exc ex st2 => rw [e2] at h3; exact h3
    | bad => rw [e2] at h3; exact h3
    | ok d2 st2 =>
      rw [e2] at h2
      simp only [Res.bind_ok] at h2 ⊢
      intro W1 H1 x1 so1 vs rv
      obtain ⟨v, w, rfl, r1, r2⟩ := reps2 rv
      unfold rng2D at h2
      split at h2
      · cases r1
        cases r2
        split at h2
        · rename_i hz
          exact ⟨_, _, rfl, ⟨hz.1.1, hz.1.2, hz.2.1, hz.2.2⟩, h2 W1 H1 x1 so1 _ (itr_ok _ _)⟩
        · exact h2.elim
      · exact h2.elim
end
end MM
end

section
set_option Elab.async false
set_option linter.all false
set_option maxRecDepth 100000
set_option maxHeartbeats 4000000
/-! MMSE5: comprehensions. -/
namespace MM
open PySem L2 PyProof.Rows
section
variable {S : Sta} {k : Nat} {X : Cx} {N : List Str} {sc : Scope} {Wx : WX} {pos p : Pos} {tb : Tb}
abbrev Wn : WX := fun _ _ _ _ => False
theorem takes_n {X : Cx} : Takes X Wn := fun _ _ ⟨_, _, _, _, _, _, _, _, _, _, _, _, _, _, _, _, w⟩ => w.elim
theorem wipe_wipe {σ : L2.St} {vs : List Nat} : L2.wipe (L2.wipe σ vs) vs = L2.wipe σ vs := by
  apply List.ext_getElem?
  intro j
  rw [wipe_at, wipe_at, wipe_length]
  by_cases hj : j ∈ vs <;> simp [hj]
/-- what is left to be done of a comprehension -/
def Fin (S : Sta) (W1 : List Addr) (H1 : Hp) (Q : VK) (acc : List D) (r : Res (List D)) : Prop :=
  match r with
  | .ok ys st3 => ∀ W' H' v, Ext W1 H1 W' H' → StOk S.G W' (st3 ++ [.lst (acc ++ ys)]) H' → Rep S.G.k W' H' (.loc st3.length) v → Q v H'
  | _ => False
/-- the comprehension's state ahead of turn i -/
def LcI (S : Sta) (t : Tg) (cond elt : Env → M D) (ρ0 : Env) (q : Src) (W1 : List Addr) (H1 : Hp) (D : Addr) (Q : VK) (i : Nat) (H : Hp) : Prop :=
  ∃ Wc stc acc av, Ext W1 H1 Wc H ∧ StOk S.G Wc stc H ∧ D ∉ Wc ∧ H D = some (.lst av) ∧ Reps S.G.k Wc H acc av ∧ acc.length ≤ i ∧ Fin S W1 H1 Q acc (compL t cond elt ρ0 q.2 (q.1.drop i) stc)
/-- the test of a comprehension -/
def RTTn (S : Sta) (f : Env → Store → Res D) : TT := RTT S Wn f
theorem lc_imp (hcu : S.plain) (hK : S.G.k.K = X.K) {fit : Env → Store → Res Src} {fc fe : Env → Store → Res D} {t : Tg} {own : List Nat} {f : Env → Store → Res D} {tt : TT} (htt : ∀ σ H Q, RTT S Wn fc σ H Q → tt σ H Q) (ho : ∀ i ∈ tgIs t, i ∈ own)
    (hf : ∀ ρ st, f ρ st = (fit ρ st).bind fun q st1 => if q.1.length ≤ big then noExc ((compL t fc fe (wipeE ρ own) q.2 q.1 st1).bind fun ys st2 => .ok (.loc st2.length) (st2 ++ [.lst ys])) else .bad) {σ : L2.St} {H : Hp} {Q : VK}
    (h : RT S Wx f σ H Q) : tLc (RTI S Wx fit) (gOf X.K t) tt (RT S Wn fe) own σ H Q := by
  obtain ⟨W, ρ, st, r, h⟩ := h
  rw [hf] at h
  refine ⟨W, ρ, st, r, h.bind.mono fun W1 H1 q st1 x1 so1 h1 J hJ D hD => ?_⟩
  split at h1
  · rename_i hz
    have hfin : Fin S W1 H1 Q [] (compL t fc fe (wipeE ρ own) q.2 q.1 st1) := by
      cases e : compL t fc fe (wipeE ρ own) q.2 q.1 st1 with
      | ok ys st3 => rw [e] at h1; intro W' H' v x so rv; exact h1 W' H' x so v rv
      | exc ex st3 => rw [e] at h1; exact h1.elim
      | bad => rw [e] at h1; exact h1.elim
    have r1 := r.next x1 so1
    refine ⟨fun i m H => m = q.1.length - i ∧ i ≤ q.1.length ∧ LcI S t fc fe (wipeE ρ own) q W1 H1 D Q i H, ⟨q.1.length, by simp, Nat.zero_le _, W1, st1, [], [], Ext.new hD, so1.new hD, so1.fresh hD, upd_same, .nil, Nat.zero_le _, hfin⟩, ?_⟩
    rintro i m H2 ⟨rfl, hi, Wc, stc, acc, av, xc, soc, dc, hd, ra, la, fin⟩
    have lock : wOk q.2 stc := by
      cases e : q.1.drop i with
      | nil =>
        rw [e] at fin
        simp only [compL] at fin
        split at fin
        · assumption
        · exact fin.elim
      | cons y ys =>
        rw [e] at fin
        simp only [compL] at fin
        split at fin
        · assumption
        · exact fin.elim
    have it := hJ Wc H2 stc xc soc lock i
    by_cases hlt' : i < q.1.length
    · right
      obtain ⟨go, yld⟩ := it.1 _ (List.getElem?_eq_getElem hlt')
      refine ⟨go, fun H' => LcI S t fc fe (wipeE ρ own) q W1 H1 D Q (i + 1) H', fun H' n => ⟨q.1.length - (i + 1), by omega, rfl, hlt', n⟩, fun x H' y => ?_⟩
      obtain ⟨xy, soy, rd⟩ := yld x H' y
      obtain ⟨dc, hd⟩ := xy.off_keep dc hd rfl
      have ra := ra.ext xy
      have xc := xc.trans xy
      have soc := soy
      generalize hdd : q.1[i] = d at rd
      have hdrop : q.1.drop i = d :: q.1.drop (i + 1) := by
        rw [List.drop_eq_getElem_cons hlt', hdd]
      rw [hdrop] at fin
      simp only [compL, if_pos lock] at fin
      cases ea : asgTg t d (wipeE ρ own) with
      | none => rw [ea] at fin; exact fin.elim
      | some ρ1 =>
        rw [ea] at fin
        simp only at fin
        have eo : EnvOk S.G.k Wc H' (wipeE ρ own) (L2.wipe σ own) := (r1.eo.ext xc).wipe own
        obtain ⟨σ1, e1, e2, e3⟩ := asgTg_ok ea eo rd
        rw [← hK]
        refine e3 _ ⟨by rw [e2 own ho, ]; exact wipe_wipe, ?_⟩
        refine htt _ _ _ ⟨Wc, ρ1, stc, Rl.mk0 hcu (soc) (e1), ?_⟩
        cases ec : fc ρ1 stc with
        | exc _ _ => rw [ec] at fin; exact fin.elim
        | bad => rw [ec] at fin; exact fin.elim
        | ok c stk =>
          rw [ec] at fin
          simp only [Res.bind_ok] at fin
          intro W3 H3 x3 so3
          obtain ⟨d3, hd3⟩ := x3.off_keep dc hd rfl
          cases et : truD c stk with
          | none => rw [et] at fin; exact fin.elim
          | some b =>
            refine ⟨b, rfl, ?_⟩
            rw [et] at fin
            obtain ⟨W4, x4, so4, _, g4, g5⟩ := gc_ok (l := 0) soc x3 so3
            have d4 : D ∉ W4 := fun hm => d3 (by obtain ⟨tl, rfl⟩ := g5; exact List.mem_append_left _ hm)
            have ra4 : Reps S.G.k W4 H3 acc av := ra.ext x4
            have x14 := xc.trans x4
            cases b with
            | false =>
              rw [if_neg Bool.false_ne_true]
              exact ⟨W4, gc stc stk 0, acc, av, x14, so4, d4, hd3, ra4, by omega, fin⟩
            | true =>
              rw [if_pos rfl]
              simp only at fin
              have eo4 := e1.ext x4
              refine ⟨W4, ρ1, gc stc stk 0, Rl.mk0 hcu (so4) (eo4), ?_⟩
              cases ee : fe ρ1 (gc stc stk 0) with
              | exc _ _ => rw [ee] at fin; exact fin.elim
              | bad => rw [ee] at fin; exact fin.elim
              | ok y st5 =>
                rw [ee] at fin
                simp only [Res.bind_ok] at fin
                intro W5 H5 x5 so5 v ry
                obtain ⟨d5, hd5⟩ := x5.off_keep d4 hd3 rfl
                refine ⟨av, hd5, by have := ra.length; rw [← big_eq]; omega, ?_⟩
                have off : Off W5 H5 D := ⟨d5, fun u hu => by rw [hd5] at hu; cases hu; rfl⟩
                refine ⟨W5, st5, acc ++ [y], av ++ [v], (x14.trans x5).off0 hD, so5.off off, d5, upd_same, ((ra4.ext x5).append (.cons ry .nil)).mor (off.mor _), by simp; omega, ?_⟩
                cases el : compL t fc fe (wipeE ρ own) q.2 (q.1.drop (i + 1)) st5 with
                | exc _ _ => rw [el] at fin; exact fin.elim
                | bad => rw [el] at fin; exact fin.elim
                | ok ys st6 =>
                  rw [el] at fin
                  simp only [Res.bind_ok] at fin
                  intro W' H'' v' x so rv'
                  refine fin W' H'' v' x ?_ rv'
                  rw [List.append_assoc] at so
                  exact so
    · left
      have hie : i = q.1.length := by omega
      refine ⟨it.2 (by omega), ?_⟩
      rw [hie, List.drop_length] at fin
      simp only [compL, if_pos lock] at fin
      refine fin (Wc ++ [D]) H2 _ (xc.adopt hD) (soc.adopt (fun C dx gs z => by rw [hd] at z; cases z) dc ⟨av, hd, by rw [List.append_nil]; exact ra.mor (app_mor (fun C dx gs z => by rw [hd] at z; cases z) _)⟩) (.loc ?_)
      rw [← soc.len]; exact push_at Wc D
  · exact h1.elim
/-- the condition of a comprehension: none, or one -/
theorem pts_n {fc : Env → Store → Res D} (hf : ∀ ρ st, fc ρ st = .ok (.bl true) st) : ∀ σ H Q, RTT S Wn fc σ H Q → tYes σ H Q := by
  rintro σ H Q ⟨W, ρ, st, r, h⟩
  rw [hf] at h
  obtain ⟨b, h1, h2⟩ := h W H Ext.refl r.so
  simp [truD] at h1
  subst h1
  exact h2
/-- the context within -/
theorem GX.blk (g : GX S k X N sc) (s : Shared) (H : Hp) (scope : Scope) (C : Addr) (cl : List (Str × Addr)) (fp : List Addr) : GX S k (X.blk s H scope (compEnvC scope cl C X.env) fp) N (relS scope sc) where
  prog := g.prog
  w := g.w
  K := g.K
  mg := g.mg
  base := g.base
  nm := g.nm
  nd := g.nd
  sc := by rw [← g.sc]; rfl
  un := g.un
  gd := g.gd
  cls := g.cls
  cm := g.cm
theorem se_comp (g : GX S k X N sc) (hcu : S.plain) (hc : X.calm = true) {fit : Env → Store → Res Src} {fc fe : Env → Store → Res D} {t : Tg} {f : Env → Store → Res D} {elt tg iter : Expr} {ifs : List Expr} {scope : Scope} {own : List (Str × Nat)} {tt : TT} (hi : SI S X fit tg iter) (ok : BlkOk N sc scope own)
    (htg : tgB N (ownC scope) (relS scope sc) t tg = true) (htt : ∀ σ H Q, RTT S Wn fc σ H Q → tt σ H Q) (ht : ∀ (s : Shared) (H : Hp) (C : Addr) (cl : List (Str × Addr)) (fp : List Addr), PTs (X.blk s H scope (compEnvC scope cl C X.env) fp) ifs tt)
    (he : ∀ (s : Shared) (H : Hp) (C : Addr) (cl : List (Str × Addr)) (fp : List Addr), SE S (X.blk s H scope (compEnvC scope cl C X.env) fp) fe elt) (hs : noSetD iter = true) (ho : ∀ i ∈ tgIs t, i ∈ own.map (·.2))
    (hf : ∀ ρ st, f ρ st = (fit ρ st).bind fun q st1 => if q.1.length ≤ big then noExc ((compL t fc fe (wipeE ρ (own.map (·.2))) q.2 q.1 st1).bind fun ys st2 => .ok (.loc st2.length) (st2 ++ [.lst ys])) else .bad) :
    SE S X f (.ListComp elt [⟨tg, iter, ifs, 0⟩] scope pos) := by
  intro Wx tk
  refine pe_imp (pe_lc hc (by rw [g.nm]; exact g.nd) (hi Wx tk) (by rw [g.nm, g.sc]; exact ok) (g := gOf X.K t) (fun s H C cl fp => pg_of (cel := ownC scope) (g.blk s H scope C cl fp) (fun _ z _ => z) hc htg) ht (fun s H C cl fp => he s H C cl fp Wn takes_n) (fold_plain hs)) fun σ H Q h => ?_
  exact lc_imp hcu g.K htt ho hf h
/-- name = [..] on one line -/
def SAs (S : Sta) (X : Cx) (f : Env → Store → Res D) (e : Expr) : Prop := ∀ Wx, Takes X Wx → ∀ (i : Nat) (y : Str) (py spos : Pos), X.N[i]? = some y → X.env.scope.names.lookup y = some .local → swapsWith e (some (.Name y py)) spos.line X.env = pure true →
  PS X (.Assign [.Name y py] e spos) (tAsg (RT S Wx f) (gName i))
theorem ps_imp {X : Cx} {e : Stmt} {t t' : TS} (h : PS X e t) (f : ∀ D σ H, t' D σ H → t D σ H) : PS X e t' := ⟨fun pins s σ H D I q => h.run pins s σ H D I (f D σ H q)⟩
theorem pss_imp {X : Cx} {e : List Stmt} {t t' : TS} (h : PSs X e t) (f : ∀ D σ H, t' D σ H → t D σ H) : PSs X e t' := ⟨fun pins s σ H D I q => h.run pins s σ H D I (f D σ H q)⟩
theorem sas_comp (g : GX S k X N sc) (hcu : S.plain) (hc : X.calm = true) {fit : Env → Store → Res Src} {fc fe : Env → Store → Res D} {t : Tg} {f : Env → Store → Res D} {elt tg iter : Expr} {ifs : List Expr} {scope : Scope} {own : List (Str × Nat)} {tt : TT} (hi : SI S X fit tg iter) (ok : BlkOk N sc scope own)
    (htg : tgB N (ownC scope) (relS scope sc) t tg = true) (htt : ∀ σ H Q, RTT S Wn fc σ H Q → tt σ H Q) (ht : ∀ (s : Shared) (H : Hp) (C : Addr) (cl : List (Str × Addr)) (fp : List Addr), PTs (X.blk s H scope (compEnvC scope cl C X.env) fp) ifs tt)
    (he : ∀ (s : Shared) (H : Hp) (C : Addr) (cl : List (Str × Addr)) (fp : List Addr), SE S (X.blk s H scope (compEnvC scope cl C X.env) fp) fe elt) (hs : noSetD iter = true) (ho : ∀ i ∈ tgIs t, i ∈ own.map (·.2))
    (hf : ∀ ρ st, f ρ st = (fit ρ st).bind fun q st1 => if q.1.length ≤ big then noExc ((compL t fc fe (wipeE ρ (own.map (·.2))) q.2 q.1 st1).bind fun ys st2 => .ok (.loc st2.length) (st2 ++ [.lst ys])) else .bad) :
    SAs S X f (.ListComp elt [⟨tg, iter, ifs, 0⟩] scope pos) := by
  intro Wx tk i y py spos hy hl hsw
  refine ps_imp (ps_setLc hc (by rw [g.nm]; exact g.nd) hy hl hsw (hi Wx tk) (by rw [g.nm, g.sc]; exact ok) (g := gOf X.K t) (fun s H C cl fp => pg_of (cel := ownC scope) (g.blk s H scope C cl fp) (fun _ z _ => z) hc htg) ht (fun s H C cl fp => he s H C cl fp Wn takes_n) (fold_plain hs)) fun D σ H h => ?_
  exact lc_imp hcu g.K htt ho hf h
end
end MM
end

section
set_option Elab.async false
set_option linter.all false
set_option maxRecDepth 100000
set_option maxHeartbeats 4000000
/-! MMZip: zip of a list and a tuple, in any mixture: one proof over two ways to walk. -/
namespace MM
open PySem L2 PyProof.Rows
/-- a way to walk a sequence: its iterator, what stands at its place -/
structure Wk where
  cls : String
  pos : Heap → Addr → Addr → Nat → Prop
  has : Heap → Addr → Array Value → Prop
  posE : ∀ {h h' : Heap} {it b l : Addr} {i : Nat}, pos h it l i → Heap.ExtBut b h h' → it ≠ b → pos h' it l i
  hasE : ∀ {h h' : Heap} {b l : Addr} {xs : Array Value}, has h l xs → Heap.ExtBut b h h' → l ≠ b → has h' l xs
  posK : ∀ {h h' : Heap} {it l : Addr} {i : Nat}, pos h it l i → (∀ o, h.get? it = some o → h'.get? it = some o) → pos h' it l i
  obj : ∀ {h : Heap} {it l : Addr} {i : Nat}, pos h it l i → ∃ o, h.get? it = some o ∧ ∀ v, o.data ≠ .cell v
  new : ∀ {h : Heap} {n l : Addr}, h.get? n = some { cls := .type cls, data := .fields #[.ref l, .int 0 0] } → pos h n l 0
  hasP : ∀ {h : Heap} {l : Addr} {xs : Array Value} (o : Obj), has h l xs → has (h.push o) l xs
  lt : ∀ {h : Heap} {l : Addr} {xs : Array Value}, has h l xs → l < h.objs.size
  item : ∀ {prog : Program} {w : World} {A : Around} {s : Shared} {it l : Addr} {i : Nat} {xs : Array Value} {x : Value} {Q E : Value → Shared → Prop}, pos s.heap it l i → has s.heap l xs → xs[i]? = some x →
    (∀ h', pos h' it l (i + 1) → Heap.SameBut it s.heap h' → Q x { s with heap := h' }) → wpAny (model prog w) A (Builtin.SmallTypes.nextOf (.ref it)) Q E s
  stop : ∀ {prog : Program} {w : World} {A : Around} {s : Shared} {it l : Addr} {i : Nat} {xs : Array Value} {Q E : Value → Shared → Prop}, A.handled = none → pos s.heap it l i → has s.heap l xs → xs[i]? = none →
    (∀ h' e, Heap.ExtBut it s.heap h' → (∃ o, h'.get? e = some o ∧ o.cls = .type "StopIteration") → E (.ref e) { s with heap := h' }) → wpAny (model prog w) A (Builtin.SmallTypes.nextOf (.ref it)) Q E s
  iter : ∀ {prog : Program} {w : World} {A : Around} {s : Shared} {l : Addr} {xs : Array Value} {Q E : Value → Shared → Prop}, has s.heap l xs →
    Q (.ref s.heap.objs.size) { s with heap := s.heap.push { cls := .type cls, data := .fields #[.ref l, .int 0 0] } } → wpAny (model prog w) A (pyIter (.ref l)) Q E s
def wkL : Wk where
  cls := "list_iterator"
  pos := Heap.IsListIter
  has := Heap.IsList
  posE h e n := h.extBut e n
  hasE h e n := h.extBut e n
  posK h k := h.at k
  obj := fun ⟨o, e, _, d⟩ => ⟨o, e, fun v q => by rw [d] at q; cases q⟩
  new e := ⟨_, e, rfl, rfl⟩
  hasP o h := Heap.IsList.push h o
  lt := fun ⟨_, e, _⟩ => Heap.lt_size e
  item h1 h2 h3 h4 := wpAny_nextOf_list_item h1 h2 h3 h4
  stop h0 h1 h2 h3 h4 := wpAny_nextOf_list_end h0 h1 h2 h3 h4
  iter h q := wpAny_pyIter_list h q
def wkT : Wk where
  cls := "tuple_iterator"
  pos := Heap.IsTupleIter
  has := Heap.IsTuple
  posE h e n := h.extBut e n
  hasE h e n := h.extBut e n
  posK h k := h.at k
  obj := fun ⟨o, e, _, d⟩ => ⟨o, e, fun v q => by rw [d] at q; cases q⟩
  new e := ⟨_, e, rfl, rfl⟩
  hasP o h := Heap.IsTuple.push h o
  lt := fun ⟨_, e, _⟩ => Heap.lt_size e
  item h1 h2 h3 h4 := RZ.nextOf_tuple_item h1 h2 h3 h4
  stop h0 h1 h2 h3 h4 := RZ.nextOf_tuple_end h0 h1 h2 h3 h4
  iter h q := wpAny_pyIter_tuple h q
/-- all but the zip, its pair and the two iterators stays -/
abbrev Rest (z TO i1 i2 : Addr) (h h' : Heap) : Prop := ∀ c o, c ≠ z → c ≠ TO → c ≠ i1 → c ≠ i2 → h.get? c = some o → h'.get? c = some o
/-- a zip at its turn -/
structure ZipAt (P Q : Wk) (h : Heap) (z TI TO i1 i2 l1 l2 : Addr) (n : Nat) : Prop where
  z : IsZip h z TI TO .none
  ti : IsPair h TI (.ref i1) (.ref i2)
  to : ∃ a b, IsPair h TO a b
  a : P.pos h i1 l1 n
  b : Q.pos h i2 l2 n
section
variable {prog : Program} {w : World} {A : Around} {s : Shared} {P Q : Wk} {z TI TO i1 i2 l1 l2 : Addr} {n : Nat} {xs ys : Array Value}
/-- what __next__ does ahead of the two steps, the steps given -/
theorem zip_head {R : PySem.Fin → Shared → Prop} {E : Value → Shared → Prop} (D : ZipApart z TI TO i1 i2 l1 l2) (Z : ZipAt P Q s.heap z TI TO i1 i2 l1 l2 n) (p : P.has s.heap l1 xs) (q : Q.has s.heap l2 ys) (hh : A.handled = none)
    (item : ∀ (h' : Heap) (x y : Value), xs[n]? = some x → ys[n]? = some y → IsZip h' z TI TO (rawInt s.heap.objs.size) → IsPair h' TO x y → P.pos h' i1 l1 (n + 1) → Q.pos h' i2 l2 (n + 1) → IsPair h' s.heap.objs.size x y → h'.objs.size = s.heap.objs.size + 1 →
      Rest z TO i1 i2 s.heap h' → R (.done (.ret (.ref s.heap.objs.size))) { s with heap := h' })
    (stop : ∀ (h' : Heap) (e : Addr), (xs[n]? = none ∨ ys[n]? = none) → Rest z TO i1 i2 s.heap h' → (∃ o, h'.get? e = some o ∧ o.cls = .type "StopIteration") → E (.ref e) { s with heap := h' }) :
    wpAny (model prog w) A (Builtin.«zip.__next__» ⟨[.ref z], []⟩) R E s := by
  obtain ⟨hz, hi, ⟨a0, b0, ho⟩, pa, pb⟩ := Z
  show wpAny _ _ (field (.ref z) 2 >>= _) _ _ _
  refine wpAny_bind (wpAny_field hz rfl (x := .bool false) rfl ?_); show wpAny _ _ (field (.ref z) 3 >>= _) _ _ _
  refine wpAny_bind (wpAny_field hz rfl (x := .ref TI) rfl (wpAny_bind (wpAny_seqItems hi rfl ?_)) )
  show wpAny _ _ (Builtin.SmallTypes.ownedTupleIsFree (.ref z) >>= _) _ _ _
  unfold Builtin.SmallTypes.ownedTupleIsFree
  refine wpAny_bind (wpAny_bind (wpAny_field hz rfl (x := .none) rfl (wpAny_pure ?_)))
  simp only [if_true]
  refine wpAny_bind (wpAny_rule (wpAny_bind (wpAny_field hz rfl (x := .ref TO) rfl (wpAny_bind (wpAny_setField_rec hz (by simp) fun g1 e1 m1 => ?_)))))
  have z1 : IsZip g1 z TI TO .ellipsis := e1
  simp only [List.zipIdx_cons, List.zipIdx_nil, List.forIn_cons, List.forIn_nil]
  refine wpAny_bind (wpAny_bind (wpAny_bind (wpAny_onRaise ?_))); show wpAny _ _ (Builtin.SmallTypes.nextOf (.ref i1) >>= _) _ _ _
  have pa1 := P.posE pa m1.extBut D.i1z
  have p1 := P.hasE p m1.extBut D.l1z
  cases hx : xs[n]? with
  | none =>
    refine wpAny_bind (P.stop hh pa1 p1 hx fun g2 e m2 st => ?_)
    obtain ⟨o, st, sc⟩ := st
    have z2 : IsZip g2 z TI TO .ellipsis := m2 _ _ D.i1z.symm z1
    have ez : e ≠ z := fun u => by rw [u, z2] at st; cases st; simp at sc
    refine wpAny_setField_rec z2 (by simp) fun g3 _ m3 => stop g3 e (.inl hx) (fun c u c1 _ c3 _ hc => ?_) ⟨o, m3.extBut _ _ ez st, sc⟩
    exact m3.extBut _ _ c1 (m2 _ _ c3 (m1.extBut _ _ c1 hc))
  | some x =>
    refine wpAny_bind (P.item pa1 p1 hx fun g2 pa2 m2 => wpAny_pure ?_)
    have o2 : IsPair g2 TO a0 b0 := m2.extBut _ _ D.TOi1 (m1.extBut _ _ D.TOz ho)
    refine wpAny_bind (wpAny_seqItems o2 rfl (wpAny_bind (wpAny_updateSeq_pair o2 fun g3 o3 m3 => wpAny_bind (wpAny_letGo (wpAny_pure ?_)))))
    have o3 : IsPair g3 TO x b0 := o3
    refine wpAny_bind (wpAny_bind (wpAny_onRaise ?_)); show wpAny _ _ (Builtin.SmallTypes.nextOf (.ref i2) >>= _) _ _ _
    have pb3 := Q.posE (Q.posE (Q.posE pb m1.extBut D.i2z) m2.extBut D.i12.symm) m3.extBut D.TOi2.symm
    have q3 := Q.hasE (Q.hasE (Q.hasE q m1.extBut D.l2z) m2.extBut D.l2i1) m3.extBut D.l2TO
    have z3 : IsZip g3 z TI TO .ellipsis := m3.extBut _ _ D.TOz.symm (m2.extBut _ _ D.i1z.symm z1)
    have k3 : Rest z TO i1 i2 s.heap g3 := fun c u c1 c2 c3 _ hc => m3.extBut _ _ c2 (m2.extBut _ _ c3 (m1.extBut _ _ c1 hc))
    cases hy : ys[n]? with
    | none =>
      refine wpAny_bind (Q.stop hh pb3 q3 hy fun g4 e m4 st => ?_)
      obtain ⟨o, st, sc⟩ := st
      have z4 : IsZip g4 z TI TO .ellipsis := m4 _ _ D.i2z.symm z3
      have ez : e ≠ z := fun u => by rw [u, z4] at st; cases st; simp at sc
      refine wpAny_setField_rec z4 (by simp) fun g5 _ m5 => stop g5 e (.inr hy) (fun c u c1 c2 c3 c4 hc => ?_) ⟨o, m5.extBut _ _ ez st, sc⟩
      exact m5.extBut _ _ c1 (m4 _ _ c4 (k3 c u c1 c2 c3 c4 hc))
    | some y =>
      refine wpAny_bind (Q.item pb3 q3 hy fun g4 pb4 m4 => wpAny_pure ?_)
      have o4 : IsPair g4 TO x b0 := m4.extBut _ _ D.TOi2 o3
      refine wpAny_bind (wpAny_seqItems o4 rfl (wpAny_bind (wpAny_updateSeq_pair o4 fun g5 o5 m5 => wpAny_bind (wpAny_letGo (wpAny_pure (wpAny_pure ?_))))))
      have o5 : IsPair g5 TO x y := o5
      refine wpAny_bind (wpAny_seqItems o5 rfl (wpAny_bind (wpAny_newTuple ?_)))
      have sz : g5.objs.size = s.heap.objs.size := by rw [m5.1, m4.1, m3.1, m2.1, m1.1]
      have z5 : IsZip g5 z TI TO .ellipsis := m5.extBut _ _ D.TOz.symm (m4.extBut _ _ D.i2z.symm z3)
      have k5 : Rest z TO i1 i2 s.heap g5 := fun c u c1 c2 c3 c4 hc => m5.extBut _ _ c2 (m4.extBut _ _ c4 (k3 c u c1 c2 c3 c4 hc))
      have pa5 := P.posE (P.posE (P.posE pa2 m3.extBut D.TOi1.symm) m4.extBut D.i12) m5.extBut D.TOi1.symm
      have pb5 := Q.posE pb4 m5.extBut D.TOi2.symm
      have zl : z < g5.objs.size := Heap.lt_size z5
      show wpAny _ _ (Builtin.SmallTypes.ownedTupleHandOut (.ref z) (.ref g5.objs.size) >>= _) _ _ _
      unfold Builtin.SmallTypes.ownedTupleHandOut
      have z6 : IsZip (g5.push { cls := .type "tuple", data := .seq #[x, y] }) z TI TO .ellipsis := Heap.get?_push_of_some _ z5
      refine wpAny_bind (wpAny_bind (wpAny_setField_rec z6 (by simp) fun g7 e7 m7 => ?_))
      have z7 : IsZip g7 z TI TO (rawInt g5.objs.size) := e7
      refine wpAny_setField_rec z7 (by simp) fun g8 e8 m8 => wpAny_pure ?_
      have z8 : IsZip g8 z TI TO (rawInt g5.objs.size) := e8
      have up : ∀ c o, c ≠ z → g5.get? c = some o → g8.get? c = some o := fun c o hc hg => m8.extBut _ _ hc (m7.extBut _ _ hc (Heap.get?_push_of_some _ hg))
      have t8 : IsPair g8 g5.objs.size x y := m8.extBut _ _ (Nat.ne_of_gt zl) (m7.extBut _ _ (Nat.ne_of_gt zl) (Heap.get?_push_size _ rfl))
      have s8 : g8.objs.size = g5.objs.size + 1 := by rw [m8.1, m7.1, Heap.size_push]
      rw [sz] at z8 t8 s8
      show R (.done (.ret (.ref g5.objs.size))) _
      rw [sz]
      exact item g8 x y hx hy z8 (up _ _ D.TOz o5) (P.posK pa5 fun o hg => up _ o D.i1z hg) (Q.posK pb5 fun o hg => up _ o D.i2z hg) t8 s8 fun c o c1 c2 c3 c4 hc => up c o c1 (k5 c o c1 c2 c3 c4 hc)
/-- next() of a zip -/
theorem zip_nx {R : Option Value → Shared → Prop} {E : Value → Shared → Prop} (hh : A.handled = none) (D : ZipApart z TI TO i1 i2 l1 l2) (Z : ZipAt P Q s.heap z TI TO i1 i2 l1 l2 n) (p : P.has s.heap l1 xs) (q : Q.has s.heap l2 ys)
    (item : ∀ (h' : Heap) (x y : Value), xs[n]? = some x → ys[n]? = some y → IsZip h' z TI TO (rawInt s.heap.objs.size) → IsPair h' TO x y → P.pos h' i1 l1 (n + 1) → Q.pos h' i2 l2 (n + 1) → IsPair h' s.heap.objs.size x y → h'.objs.size = s.heap.objs.size + 1 →
      Rest z TO i1 i2 s.heap h' → R (some (.ref s.heap.objs.size)) { s with heap := h' })
    (stop : ∀ h', (xs[n]? = none ∨ ys[n]? = none) → Rest z TO i1 i2 s.heap h' → R none { s with heap := h' }) : wpAny (model prog w) A (pyNext (.ref z)) R E s := by
  have ty : s.TypeIs (.ref z) "zip" := ⟨_, Z.z, rfl⟩
  unfold pyNext
  refine wpAny_bind (wpAny_attempt (wpAny_callSpecial?_slot (name := Str.ofString "__next__") ty F.slot_zip_next (wpAny_call_entry F.slot_zip_next ty F.entry_zip_next
    (zip_head D Z p q hh (fun h' x y g1 g2 g3 g4 g5 g6 g7 g8 g9 => ⟨_, rfl, wpAny_pure (item h' x y g1 g2 g3 g4 g5 g6 g7 g8 g9)⟩) fun h' e g1 g2 ⟨o, g3, g4⟩ => ?_) (F.args_zip_next_1 _))))
  exact wpAny_bind (wpAny_isInstance (T := "StopIteration") (b := true) ⟨o, g3, g4⟩ isSubtype_stop (wpAny_pure (stop _ g1 g2)))
end
/-! ### the zip made -/
section
variable (P Q : Wk) (h : Heap) (l1 l2 : Addr)
abbrev zp1 : Heap := h.push { cls := .type P.cls, data := .fields #[.ref l1, .int 0 0] }
abbrev zp2 : Heap := (zp1 P h l1).push { cls := .type Q.cls, data := .fields #[.ref l2, .int 0 0] }
abbrev zp3 : Heap := (zp2 P Q h l1 l2).push { cls := .type "tuple", data := .seq #[.ref h.objs.size, .ref (zp1 P h l1).objs.size] }
abbrev zp4 : Heap := (zp3 P Q h l1 l2).push { cls := .type "tuple", data := .seq #[.none, .none] }
abbrev zp5 : Heap := (zp4 P Q h l1 l2).push { cls := .type "zip", data := .fields #[.none, .bool false, .bool false, .ref (zp2 P Q h l1 l2).objs.size, .ref (zp3 P Q h l1 l2).objs.size] }
theorem zip_made (xs ys : Array Value) : Meets (Builtin.«zip.__new__» ⟨[.type "zip", .ref l1, .ref l2], []⟩) (fun _ R s => P.has s.heap l1 xs ∧ Q.has s.heap l2 ys ∧ R (.ok (.ret (.ref (zp4 P Q s.heap l1 l2).objs.size))) { s with heap := zp5 P Q s.heap l1 l2 }) :=
  .of_wp fun prog w A R s h => by
    obtain ⟨hp, g, d, tk, os⟩ := s; obtain ⟨p, q, h⟩ := h
    have sub := sub_zip
    have p' : P.has (Shared.heap ⟨hp, g, d, tk, os⟩) l1 xs := p
    have q' : Q.has (Shared.heap ⟨zp1 P hp l1, g, d, tk, os⟩) l2 ys := Q.hasP _ q
    wp_walk using P.iter p', Q.iter q'
    exact ⟨_, rfl, h⟩
end
theorem zip_call {prog : Program} {w : World} {A : Around} {E : Value → Shared → Prop} {s : Shared} {P Q : Wk} {l1 l2 : Addr} {xs ys : Array Value} {R : Value → Shared → Prop} (p : P.has s.heap l1 xs) (q : Q.has s.heap l2 ys)
    (h : ∀ h', ZipAt P Q h' (s.heap.objs.size + 4) (s.heap.objs.size + 2) (s.heap.objs.size + 3) s.heap.objs.size (s.heap.objs.size + 1) l1 l2 0 → (∀ c o, s.heap.get? c = some o → h'.get? c = some o) → R (.ref (s.heap.objs.size + 4)) { s with heap := h' }) :
    wpAny (model prog w) A (call (.type "zip") [.ref l1, .ref l2]) R E s := by
  refine callType_new F.called_zip (by decide) (F.typeCall_zip_2 _ _) (F.newCall_zip_2 _ _) (fun obj => F.args_object_init_3 obj _ _) F.entry_zip_new (zip_made P Q l1 l2 xs ys) ⟨p, q, ?_⟩
  have s1 : (zp1 P s.heap l1).objs.size = s.heap.objs.size + 1 := Heap.size_push ..
  have s2 : (zp2 P Q s.heap l1 l2).objs.size = s.heap.objs.size + 2 := by rw [Heap.size_push, s1]
  have s3 : (zp3 P Q s.heap l1 l2).objs.size = s.heap.objs.size + 3 := by rw [Heap.size_push, s2]
  have s4 : (zp4 P Q s.heap l1 l2).objs.size = s.heap.objs.size + 4 := by rw [Heap.size_push, s3]
  have up : ∀ {h : Heap} {c : Addr} {o : Obj} (u : Obj), h.get? c = some o → (h.push u).get? c = some o := fun u e => Heap.get?_push_of_some u e
  have e5 : (zp5 P Q s.heap l1 l2).get? (zp4 P Q s.heap l1 l2).objs.size = some _ := Heap.get?_push_size _ rfl
  have e4 : (zp5 P Q s.heap l1 l2).get? (zp3 P Q s.heap l1 l2).objs.size = some _ := up _ (Heap.get?_push_size _ rfl)
  have e3 : (zp5 P Q s.heap l1 l2).get? (zp2 P Q s.heap l1 l2).objs.size = some _ := up _ (up _ (Heap.get?_push_size _ rfl))
  have e2 : (zp5 P Q s.heap l1 l2).get? (zp1 P s.heap l1).objs.size = some _ := up _ (up _ (up _ (Heap.get?_push_size _ rfl)))
  have e1 : (zp5 P Q s.heap l1 l2).get? s.heap.objs.size = some _ := up _ (up _ (up _ (up _ (Heap.get?_push_size _ rfl))))
  show _ ∧ _
  rw [s2, s3, s4] at e5
  rw [s1, s2] at e3
  rw [s3] at e4
  rw [s1] at e2
  rw [s4]
  exact ⟨⟨_, e5, rfl⟩, h _ ⟨e5, e3, ⟨_, _, e4⟩, P.new e1, Q.new e2⟩ fun c o e => up _ (up _ (up _ (up _ (up _ e))))⟩
/-! ### at the level of values -/
def wk : Bool → Wk | true => wkT | false => wkL
def SqX (t : Bool) (K : PySem.W.Frag) (H : Hp) (a : Addr) (xs : List V) : Prop := if t = true then SqT K H a xs else SqL K H a xs
theorem sqx_at {X : Cx} {pins : List (Addr × Obj)} {σ : L2.St} {H : Hp} {s : Shared} (I : Inv X pins σ H s) {t : Bool} {a : Addr} {xs : List V} (h : SqX t X.K H a xs) : ∃ its : List Value, Vals xs its ∧ (wk t).has s.heap a its.toArray := by
  cases t with
  | true => obtain ⟨its, r, p, _⟩ := I.tuple h; exact ⟨its, r, p⟩
  | false => obtain ⟨its, r, p, _⟩ := I.list h; exact ⟨its, r, p.isList⟩
theorem sqx_inj {X : Cx} {pins : List (Addr × Obj)} {σ : L2.St} {H : Hp} {s : Shared} (I : Inv X pins σ H s) {t : Bool} {a : Addr} {xs ys : List V} (h : SqX t X.K H a xs) (h' : SqX t X.K H a ys) : xs = ys := by
  cases t with
  | true => exact I.tuple_inj h h'
  | false => exact I.list_inj h h'
/-- two sequences at their places as they stand at each turn, the items in new pairs -/
def ItM (t u : Bool) (K : PySem.W.Frag) (a b : Addr) : L2.It :=
  ⟨fun i H => ∃ (xs ys : List V) (x y : V), SqX t K H a xs ∧ SqX u K H b ys ∧ xs[i]? = some x ∧ ys[i]? = some y,
    fun i H v H' => ∃ T x y, v = .ref T ∧ H T = none ∧ H' = upd H T (.tup [x, y]) ∧ (∀ xs, SqX t K H a xs → xs[i]? = some x) ∧ ∀ ys, SqX u K H b ys → ys[i]? = some y,
    fun i H => ∃ xs ys : List V, SqX t K H a xs ∧ SqX u K H b ys ∧ (xs.length ≤ i ∨ ys.length ≤ i)⟩
theorem five {c z TI TO i1 i2 : Addr} (h : c ∈ [z, TI, TO, i1, i2]) : c = z ∨ c = TI ∨ c = TO ∨ c = i1 ∨ c = i2 := by simpa using h
theorem turnM {P : Program} {w : World} {K : PySem.W.Frag} {t u : Bool} {elts : List Expr} {kk : Nat} {tpos : Pos} {a b z TI TO i1 i2 : Addr} (D : ZipApart z TI TO i1 i2 a b) :
    Turn P w K (.Tuple elts kk tpos) (ItM t u K a b) [z, TI, TO, i1, i2] z (fun i h => ZipAt (wk t) (wk u) h z TI TO i1 i2 a b i) where
  mem := List.mem_cons_self
  obj := fun i h Z c hc => by
    obtain ⟨x, y, ho⟩ := Z.to
    rcases five hc with q | q | q | q | q
    · rw [q]; exact ⟨_, Z.z, fun v q => nomatch q⟩
    · rw [q]; exact ⟨_, Z.ti, fun v q => nomatch q⟩
    · rw [q]; exact ⟨_, ho, fun v q => nomatch q⟩
    · rw [q]; exact (wk t).obj Z.a
    · rw [q]; exact (wk u).obj Z.b
  keep := fun i h h' Z k => by
    obtain ⟨x, y, ho⟩ := Z.to
    exact ⟨k z (by simp) _ Z.z, k TI (by simp) _ Z.ti, ⟨x, y, k TO (by simp) _ ho⟩, (wk t).posK Z.a fun o q => k i1 (by simp) o q, (wk u).posK Z.b fun o q => k i2 (by simp) o q⟩
  item := by
    intro X hP hw hK hc i pins s σ H E I hf Z hg
    subst hP hw hK
    obtain ⟨xs, ys, x, y, sx, sy, hx, hy⟩ := hg
    obtain ⟨its, rv, p⟩ := sqx_at I sx
    obtain ⟨jts, rw, q⟩ := sqx_at I sy
    obtain ⟨v, hv, ru⟩ := rv.get hx
    obtain ⟨v2, hv2, ru2⟩ := rw.get hy
    have zl : z < s.heap.objs.size := Heap.lt_size Z.z
    refine zip_nx (I.ok.hd hc) D Z p q (fun h' x' y' gx gy z' o' pa pb tp sz k => ?_) fun h' e _ => ?_
    · have e1 : x' = v := by have := gx.symm.trans (show its.toArray[i]? = some v by simpa using hv); exact Option.some.inj this
      have e2 : y' = v2 := by have := gy.symm.trans (show jts.toArray[i]? = some v2 by simpa using hv2); exact Option.some.inj this
      subst e1 e2
      refine ⟨_, rfl, wpAny_letOwnedTupleGo_zip (s := { s with heap := h' }) z' fun g zg sb => ?_⟩
      have tg : g.get? s.heap.objs.size = some { cls := .type "tuple", data := .seq #[x', y'] } := (sb.2 _ (Nat.ne_of_gt zl)).trans tp
      have new : ObjOk X.prog X.w (upd H s.heap.objs.size (.tup [x, y])) g s.heap.objs.size (.tup [x, y]) := ⟨by show 2 ≤ sizeLine; decide, [x', y'], .cons ru (.cons ru2 .nil), ⟨_, tg, rfl, _, rfl⟩⟩
      have stay : ∀ c o, c ∉ [z, TI, TO, i1, i2] → s.heap.get? c = some o → g.get? c = some o := fun c o hb e => by
        simp only [List.mem_cons, List.not_mem_nil, or_false, not_or] at hb
        exact (sb.2 c hb.1).trans (k c o hb.1 hb.2.2.1 hb.2.2.2.1 hb.2.2.2.2 e)
      refine ⟨.ref s.heap.objs.size, _, I.turnedNew (t' := s.toks) (ch := [z, TI, TO, i1, i2]) stay hf (Nat.le_refl _) new, rfl, ⟨_, x, y, rfl, I.hok.fresh (Nat.le_refl _), rfl, fun l hl => by rw [sqx_inj I hl sx]; exact hx, fun l hl => by rw [sqx_inj I hl sy]; exact hy⟩, ⟨zg, ?_, ⟨x', y', ?_⟩, ?_, ?_⟩, fun c hcm => ?_⟩
      · exact (sb.2 _ D.TIz).trans (k _ _ D.TIz D.TITO D.TIi1 D.TIi2 Z.ti)
      · exact (sb.2 _ D.TOz).trans o'
      · exact (wk t).posK pa fun o e => (sb.2 _ D.i1z).trans e
      · exact (wk u).posK pb fun o e => (sb.2 _ D.i2z).trans e
      · have hlt : c < s.heap.objs.size := by
          obtain ⟨_, _, ho⟩ := Z.to
          obtain ⟨_, oa, _⟩ := (wk t).obj Z.a
          obtain ⟨_, ob, _⟩ := (wk u).obj Z.b
          have l1 := Heap.lt_size Z.ti
          have l2 := Heap.lt_size ho
          have l3 := Heap.lt_size oa
          have l4 := Heap.lt_size ob
          rcases five hcm with e | e | e | e | e <;> rw [e] <;> assumption
        rw [upd_ne (Nat.ne_of_lt hlt)]
        exact (hf c hcm).1
    · rcases e with e | e
      · rw [show its.toArray[i]? = some v by simpa using hv] at e; cases e
      · rw [show jts.toArray[i]? = some v2 by simpa using hv2] at e; cases e
  done := by
    intro X hP hw hK hc i pins s σ H E I hf Z hg
    subst hP hw hK
    obtain ⟨xs, ys, sx, sy, fin⟩ := hg
    obtain ⟨its, rv, p⟩ := sqx_at I sx
    obtain ⟨jts, rw, q⟩ := sqx_at I sy
    have n1 := rv.length
    have n2 := rw.length
    refine zip_nx (I.ok.hd hc) D Z p q (fun h' x' y' gx gy _ _ _ _ _ _ _ => ?_) fun h' _ k => ⟨rfl, I.turnedL (t' := s.toks) (ch := [z, TI, TO, i1, i2]) (fun c o hb e => ?_) hf⟩
    · have g1 := (Array.getElem?_eq_some_iff.mp gx).1
      have g2 := (Array.getElem?_eq_some_iff.mp gy).1
      simp only [List.size_toArray] at g1 g2
      rcases fin with f | f <;> omega
    · simp only [List.mem_cons, List.not_mem_nil, or_false, not_or] at hb
      exact k c o hb.1 hb.2.2.1 hb.2.2.2.1 hb.2.2.2.2 e
  self := fun A i s Q E Z h => wpAny_pyIter_zip Z.z h
def iZipM (K : PySem.W.Frag) (ta : TA) : TI := fun σ H R => ta σ H fun vs H1 => ∃ a b xs ys t u, vs = [.ref a, .ref b] ∧ SqX t K H1 a xs ∧ SqX u K H1 b ys ∧ R (ItM t u K a b) H1
theorem pi_zipM {X : Cx} {e e2 : Expr} {ta : TA} {p pos tpos : Pos} {elts : List Expr} {kk : Nat} (hg : Gl X "zip") (hm : X.mg "zip" = none) (ha : PA X [e, e2] ta)
    (hs : starEach [e, e2] X.env = (false, eval e X.env) :: starEach [e2] X.env) (hpl : (backTo pos (starEach [e2] X.env)).any (·.1) = false) : PI X (.Tuple elts kk tpos) (.Call (.Name "zip" p) [e, e2] [] pos) (iZipM X.K ta) := by
  refine ⟨fun pins s σ H R I h => Call_ (ld_blt I hg hm PyProof.Rows.boot_zip (PyProof.Rows.callWith_type1 (thn (ha.run pos pins s σ H _ I h) fun us s1 ⟨vs, H1, I1, r1, q1⟩ => ?_) hs hpl))⟩
  obtain ⟨a, b, xs, ys, t, u, rfl, sx, sy, q1⟩ := q1
  obtain ⟨rfl, r⟩ : us = [.ref a, .ref b] ∧ True := by
    cases r1 with | cons r rr => cases r; cases rr with | cons r rr => cases r; cases rr; exact ⟨rfl, trivial⟩
  obtain ⟨its, _, p1⟩ := sqx_at I1 sx
  obtain ⟨jts, _, p2⟩ := sqx_at I1 sy
  refine zip_call p1 p2 fun h' Z hk => wpAny_pyIter_zip Z.z ?_
  have I2 : Inv X pins σ H1 { s1 with heap := h' } := I1.kept (t' := s1.toks) hk
  refine ⟨s1.heap.objs.size + 4, [s1.heap.objs.size + 4, s1.heap.objs.size + 2, s1.heap.objs.size + 3, s1.heap.objs.size, s1.heap.objs.size + 1], _, _, H1, rfl, I2, turnM (PySem.W.ktu_apart s1.heap.objs.size a b ((wk t).lt p1) ((wk u).lt p2)), Z, fun c hcm => ?_, q1⟩
  have hle : s1.heap.objs.size ≤ c := by rcases five hcm with e | e | e | e | e <;> rw [e] <;> omega
  exact I1.fpOk hle (I1.hok.fresh hle)
end MM
end

section
set_option Elab.async false
set_option linter.all false
set_option maxRecDepth 100000
set_option maxHeartbeats 4000000
/-! MMFrz: a new list becomes one that nobody changes; zip and enumerate walked. -/
namespace MM
open PySem L2 PyProof.Rows
section
variable {S : Sta} {k : Nat} {X : Cx} {N : List Str} {sc : Scope} {Wx : WX} {pos p : Pos} {tb : Tb}
/-- a cell laid since st stands nowhere else -/
theorem cell_new {G : Gam} {W1 : List Addr} {H1 : Hp} {st1 : Store} {n m : Nat} {a : Addr} {xs : List D} {vs : List V} (so1 : StOk G W1 st1 H1) (e1 : st1[n]? = some (.lst xs)) (ha : W1[n]? = some a) (hv : H1 a = some (.lst vs)) (hm : W1[m]? = some a) : m = n := by
  have hl1 : m < st1.length := by rw [← so1.len]; exact (List.getElem?_eq_some_iff.mp hm).1
  have q := so1.cell m _ a (List.getElem?_eq_getElem hl1) hm
  have inj := so1.inj n m a _ _ ha hm e1 (List.getElem?_eq_getElem hl1) rfl
  cases e : st1[m] with
  | lst ys => rw [e] at inj; exact (inj rfl).symm
  | dic ys => rw [e] at inj; exact (inj rfl).symm
  | ins c fs => rw [e] at inj; exact (inj rfl).symm
  | rol ys => rw [e] at q; obtain ⟨_, ⟨o, z⟩, _⟩ := q; rw [hv] at z; cases z
theorem frz_imp {fa f : Env → Store → Res D} (hf : ∀ ρ st, f ρ st = (fa ρ st).bind fun d st1 => frzE st d st1) {σ : L2.St} {H : Hp} {Q : VK} (h : RT S Wx f σ H Q) :
    RT S Wx fa σ H fun v H1 => Q v H1 ∨ ∃ a vs, v = .ref a ∧ H1 a = some (.lst vs) ∧ ∀ o, Q v (upd H1 a (.frz o (.lst vs))) := by
  obtain ⟨W, ρ, st, r, h⟩ := h
  rw [hf] at h
  refine ⟨W, ρ, st, r, h.bind2.mono fun W1 H1 d st1 x1 so1 h1 v rv => ?_⟩
  unfold frzE at h1
  split at h1
  · rename_i n
    split at h1
    · rename_i c1
      split at h1
      · rename_i xs e1
        split at h1
        · rename_i hc
          obtain ⟨c2, c3, c4⟩ := hc
          cases rv with
          | @loc _ a ha =>
            obtain ⟨vs, hv, hr⟩ := cell_lst so1 e1 ha
            refine .inr ⟨a, vs, rfl, hv, fun o => ?_⟩
            have hg : gc st st1 (D.lims xs) = st1.take st.length := by unfold gc; rw [if_pos ⟨c2, c3, c4⟩]
            obtain ⟨W2, x2, so2, _, g5, g6⟩ := gc_ok (l := D.lims xs) r.so x1 so1
            rw [hg] at so2
            have hl2 : W2.length = st.length := by rw [so2.len, List.length_take]; omega
            have out2 : a ∉ W2 := fun hm => by
              obtain ⟨m, hm⟩ := List.mem_iff_getElem?.mp hm
              have hlt := (List.getElem?_eq_some_iff.mp hm).1
              have hm1 : W1[m]? = some a := by
                obtain ⟨t, rfl⟩ := g6
                rw [List.getElem?_append_left hlt]
                exact hm
              have := cell_new so1 e1 ha hv hm1
              omega
            have outW : a ∉ W := fun hm => by
              obtain ⟨m, hm⟩ := List.mem_iff_getElem?.mp hm
              have hlt := (List.getElem?_eq_some_iff.mp hm).1
              have := cell_new so1 e1 ha hv (x1.get hm)
              rw [r.so.len] at hlt
              omega
            have hn : ∀ u, H a = some u → ∃ ps, u = .tbl ps := by
              rcases x1.fresh a (List.mem_of_getElem? ha) with z | z
              · exact absurd z outW
              · exact z
            have off : Off W2 H1 a := ⟨out2, fun u hu => by rw [hv] at hu; cases hu; rfl⟩
            exact h1 W2 _ (x2.off hn) (so2.off off) _ (.fl (o := o) upd_same ((g5 _ _ (Nat.le_refl _) hr).mor (off.mor _)))
        · exact .inl (h1 W1 H1 x1 so1 v rv)
      · exact .inl (h1 W1 H1 x1 so1 v rv)
    · exact .inl (h1 W1 H1 x1 so1 v rv)
  · exact .inl (h1 W1 H1 x1 so1 v rv)
theorem se_frz {fa f : Env → Store → Res D} {a : Expr} (ha : SE S X fa a) (hf : ∀ ρ st, f ρ st = (fa ρ st).bind fun d st1 => frzE st d st1) : SE S X f a := by
  intro Wx tk
  refine ⟨fun pins s σ H Q I h => ?_⟩
  refine thn ((ha Wx tk).run pins s σ H _ I (frz_imp hf h)) fun u s1 ⟨v, H1, I1, r1, q⟩ => ?_
  rcases q with q | ⟨b, vs, ev, hv, q⟩
  · exact ⟨v, H1, I1, r1, q⟩
  · obtain ⟨od, I2⟩ := I1.lock hv trivial
    exact ⟨v, _, I2, r1, q od⟩
theorem sas_frz {fa f : Env → Store → Res D} {a : Expr} (ha : SAs S X fa a) (hf : ∀ ρ st, f ρ st = (fa ρ st).bind fun d st1 => frzE st d st1) : SAs S X f a := by
  intro Wx tk i y py spos h1 h2 h3
  refine ⟨fun pins s σ H D I h => ?_⟩
  have h' : RT S Wx f σ H (fun v H1 => gName i v σ H1 D.nx) := h
  let D' : Ends := { D with nx := fun σ' H' => D.nx σ' H' ∨ ∃ b vs, H' b = some (.lst vs) ∧ ∀ o, D.nx σ' (upd H' b (.frz o (.lst vs))) }
  have h2' : tAsg (RT S Wx fa) (gName i) D' σ H := by
    obtain ⟨W, ρ, st, r, q⟩ := frz_imp hf h'
    exact ⟨W, ρ, st, r, q.mono fun W1 H1 d st1 x1 so1 q1 v rv => by
      rcases q1 v rv with q | ⟨b, vs, e1, e2, e3⟩
      · exact .inl q
      · exact .inr ⟨b, vs, e2, e3⟩⟩
  refine thn ((ha Wx tk i y py spos h1 h2 h3).run pins s σ H D' I h2') fun f s1 q => ?_
  cases f with
  | next =>
    obtain ⟨σ', H', I1, q⟩ := q
    rcases q with q | ⟨b, vs, hv, q⟩
    · exact ⟨σ', H', I1, q⟩
    · obtain ⟨od, I2⟩ := I1.lock hv trivial
      exact ⟨σ', _, I2, q od⟩
  | brk => exact q
  | cont => exact q
  | ret v => exact q
/-! ### zip, enumerate -/
/-- what seqOf gives stands as long as the locks say -/
theorem seq_ok {G : Gam} {W1 : List Addr} {H1 : Hp} {st1 : Store} {d : D} {v : V} {xs : List D} {w : List (Nat × List D)} {t : Bool} (so1 : StOk G W1 st1 H1) (rd : Rep G.k W1 H1 d v) (h : seqOf st1 d = some (xs, w, t)) :
    ∃ a, v = .ref a ∧ (∃ vs, if t = true then SqT G.k.K H1 a vs else SqL G.k.K H1 a vs) ∧ ∀ W2 H2 st2, Ext W1 H1 W2 H2 → StOk G W2 st2 H2 → wOk w st2 → ∃ vs, Reps G.k W2 H2 xs vs ∧ (if t = true then SqT G.k.K H2 a vs else SqL G.k.K H2 a vs) := by
  cases rd with
  | @tup a vs _ hs hr =>
    simp only [seqOf, Option.some.injEq, Prod.mk.injEq] at h
    obtain ⟨rfl, rfl, rfl⟩ := h
    exact ⟨a, rfl, ⟨vs, by rw [if_pos rfl]; exact hs⟩, fun W2 H2 st2 x2 so2 _ => ⟨vs, hr.ext x2, by rw [if_pos rfl]; exact x2.sqT hs⟩⟩
  | @fl a o vs _ hs hr =>
    simp only [seqOf, Option.some.injEq, Prod.mk.injEq] at h
    obtain ⟨rfl, rfl, rfl⟩ := h
    exact ⟨a, rfl, ⟨vs, by rw [if_neg (by simp)]; exact .inl (.inr ⟨o, hs⟩)⟩, fun W2 H2 st2 x2 so2 _ => ⟨vs, hr.ext x2, by rw [if_neg (by simp)]; exact .inl (.inr ⟨o, x2.frzs _ _ _ hs⟩)⟩⟩
  | @loc n a ha =>
    simp only [seqOf] at h
    split at h
    · rename_i ys e
      simp only [Option.some.injEq, Prod.mk.injEq] at h
      obtain ⟨rfl, rfl, rfl⟩ := h
      obtain ⟨ws, q1, q2⟩ := cell_lst so1 e ha
      refine ⟨a, rfl, ⟨ws, by rw [if_neg (by simp)]; exact SqL.of q1⟩, fun W2 H2 st2 x2 so2 lk => ?_⟩
      obtain ⟨ws, q1, q2⟩ := cell_lst so2 (lk (n, ys) (by simp)) (x2.get ha)
      exact ⟨ws, q2, by rw [if_neg (by simp)]; exact SqL.of q1⟩
    · cases h
  | _ => simp [seqOf] at h
theorem pairs_get {xs ys : List D} {i : Nat} {d : D} (h : (pairsD xs ys)[i]? = some d) : ∃ x y, xs[i]? = some x ∧ ys[i]? = some y ∧ d = .tup [x, y] := by
  unfold pairsD at h
  rw [List.getElem?_map] at h
  cases e : (xs.zip ys)[i]? with
  | none => rw [e] at h; cases h
  | some q =>
    rw [e] at h
    obtain ⟨a, b⟩ := q
    rw [List.getElem?_zip_eq_some] at e
    simp only [Option.map_some, Option.some.injEq] at h
    exact ⟨a, b, e.1, e.2, h.symm⟩
theorem pairs_len {xs ys : List D} {i : Nat} (h : (pairsD xs ys).length ≤ i) : xs.length ≤ i ∨ ys.length ≤ i := by
  unfold pairsD at h
  simp only [List.length_map, List.length_zip] at h
  omega
theorem wok_app {w w' : List (Nat × List D)} {st : Store} (h : wOk (w ++ w') st) : wOk w st ∧ wOk w' st := ⟨fun p hp => h p (List.mem_append_left _ hp), fun p hp => h p (List.mem_append_right _ hp)⟩
theorem tup2_ok {G : Gam} {W : List Addr} {H : Hp} {st : Store} {x y : D} {v w : V} {T : Addr} (so : StOk G W st H) (hT : H T = none) (rx : Rep G.k W H x v) (ry : Rep G.k W H y w) :
    Ext W H W (upd H T (.tup [v, w])) ∧ StOk G W st (upd H T (.tup [v, w])) ∧ Rep G.k W (upd H T (.tup [v, w])) (.tup [x, y]) (.ref T) := by
  have x1 : Ext W H W (upd H T (.tup [v, w])) := Ext.new hT
  exact ⟨x1, so.new hT, .tup (SqT.of upd_same) (.cons (rx.ext x1) (.cons (ry.ext x1) .nil))⟩
theorem si_zip (g : GX S k X N sc) (hz : S.G.mg "zip" = none) {fa fb : Env → Store → Res D} {f : Env → Store → Res Src} {a b : Expr} {elts : List Expr} {kk : Nat} {tpos : Pos} (hg : Gl X "zip") (ha : SE S X fa a) (hb : SE S X fb b) (hs : noStar a = true) (hs2 : noStar b = true)
    (hf : ∀ ρ st, f ρ st = (fa ρ st).bind fun d st1 => (fb ρ st1).bind fun e st2 => zipD st d e st2) : SI S X f (.Tuple elts kk tpos) (.Call (.Name "zip" p) [a, b] [] pos) := by
  intro Wx tk
  have sb : SA S X (fun ρ st => (fb ρ st).bind fun d st1 => (Res.ok [] st1 : Res (List D)).bind fun ds st2 => .ok (d :: ds) st2) [b] := sa_cons hb (sa_nil fun _ _ => rfl) hs2 fun _ _ => rfl
  have sa : SA S X (fun ρ st => (fa ρ st).bind fun d st1 => ((fb ρ st1).bind fun d st1 => (Res.ok [] st1 : Res (List D)).bind fun ds st2 => .ok (d :: ds) st2).bind fun ds st2 => .ok (d :: ds) st2) [a, b] := sa_cons ha sb hs fun _ _ => rfl
  have st2' : starEach [b] X.env = [(false, eval b X.env)] := star_cons hs2
  have st1' : starEach [a, b] X.env = (false, eval a X.env) :: starEach [b] X.env := star_cons hs
  refine ⟨fun pins s σ H R I h => (pi_zipM hg (by rw [g.mg]; exact hz) (sa Wx tk) st1' (by rw [st2']; rfl)).run pins s σ H R I ?_⟩
  obtain ⟨W, ρ, st, r, h⟩ := h
  rw [hf] at h
  refine ⟨W, ρ, st, r, ?_⟩
  have h' := h.bind2
  show Aft S Wx σ W H ((fa ρ st).bind _) _
  cases e : fa ρ st with
  | exc ex st1 => rw [e] at h'; exact h'
  | bad => rw [e] at h'; exact h'
  | ok d st1 =>
    simp only [Res.bind_ok]
    have h2 : Aft S Wx σ W H ((fb ρ st1).bind fun e st2 => zipD st d e st2) (fun W' H' p _ => ∀ J, ItOk S.G p W' H' J → R J H') := by rw [e] at h; exact h
    have h3 := h2.bind2
    cases e2 : fb ρ st1 with
    | exc ex st2 => rw [e2] at h3; exact h3
    | bad => rw [e2] at h3; exact h3
    | ok d2 st2 =>
      rw [e2] at h2
      simp only [Res.bind_ok] at h2 ⊢
      intro W1 H1 x1 so1 vs rv
      obtain ⟨v, w, rfl, r1, r2⟩ := reps2 rv
      unfold zipD at h2
      split at h2
      · rename_i xs w1 t1 ys w2 t2 q1 q2
        obtain ⟨a1, rfl, ⟨v1, i1⟩, k1⟩ := seq_ok so1 r1 q1
        obtain ⟨a2, rfl, ⟨v2, i2⟩, k2⟩ := seq_ok so1 r2 q2
        have hR := h2 W1 H1 x1 so1
        rw [← g.K]
        refine ⟨a1, a2, v1, v2, t1, t2, rfl, i1, i2, hR _ fun W3 H3 st3 x3 so3 lk i => ?_⟩
        obtain ⟨lk1, lk2⟩ := wok_app lk
        obtain ⟨vs, rx, sx⟩ := k1 W3 H3 st3 x3 so3 lk1
        obtain ⟨ws, ry, sy⟩ := k2 W3 H3 st3 x3 so3 lk2
        refine ⟨fun d hd => ?_, fun hi => ⟨vs, ws, sx, sy, by rw [← rx.length, ← ry.length]; exact pairs_len hi⟩⟩
        obtain ⟨x, y, hx, hy, rfl⟩ := pairs_get hd
        obtain ⟨vx, ex, rvx⟩ := rx.get hx
        obtain ⟨vy, ey, rvy⟩ := ry.get hy
        refine ⟨⟨vs, ws, vx, vy, sx, sy, ex, ey⟩, fun z H' ⟨T, x', y', ez, hT, eH, g1, g2⟩ => ?_⟩
        have e1 := g1 vs sx
        have e2 := g2 ws sy
        rw [ex] at e1; cases e1
        rw [ey] at e2; cases e2
        subst ez eH
        exact tup2_ok so3 hT rvx rvy
      · exact h2.elim
theorem enum_get {xs : List D} {i : Nat} {d : D} (h : (enumD xs)[i]? = some d) : ∃ x, xs[i]? = some x ∧ d = .tup [.int (i : Int), x] := by
  unfold enumD at h
  rw [List.getElem?_map, List.getElem?_zipIdx] at h
  cases e : xs[i]? with
  | none => rw [e] at h; cases h
  | some x =>
    rw [e] at h
    simp at h
    exact ⟨x, rfl, h.symm⟩
theorem si_enum (g : GX S k X N sc) (hz : S.G.mg "enumerate" = none) {fa : Env → Store → Res D} {f : Env → Store → Res Src} {a : Expr} {elts : List Expr} {kk : Nat} {tpos : Pos} (hg : Gl X "enumerate") (ha : SE S X fa a) (hs : noStar a = true)
    (hf : ∀ ρ st, f ρ st = (fa ρ st).bind fun d st1 => enumDD st d st1) : SI S X f (.Tuple elts kk tpos) (.Call (.Name "enumerate" p) [a] [] pos) := by
  intro Wx tk
  have sa : SA S X (fun ρ st => (fa ρ st).bind fun d st1 => (Res.ok [] st1 : Res (List D)).bind fun ds st2 => .ok (d :: ds) st2) [a] := sa_cons ha (sa_nil fun _ _ => rfl) hs fun _ _ => rfl
  refine ⟨fun pins s σ H R I h => (pi_enum hg (by rw [g.mg]; exact hz) (sa Wx tk) (star_cons hs)).run pins s σ H R I ?_⟩
  obtain ⟨W, ρ, st, r, h⟩ := h
  rw [hf] at h
  refine ⟨W, ρ, st, r, ?_⟩
  have h' := h.bind
  show Aft S Wx σ W H ((fa ρ st).bind _) _
  cases e : fa ρ st with
  | exc ex st1 => rw [e] at h'; exact h'
  | bad => rw [e] at h'; exact h'
  | ok d st1 =>
    rw [e] at h'
    intro W1 H1 x1 so1 vs rv
    have h1 : Aft S Wx σ W1 H1 (enumDD st d st1) (fun W' H' p _ => ∀ J, ItOk S.G p W' H' J → R J H') := h' W1 H1 x1 so1
    obtain ⟨w, rfl, rw1⟩ := reps1 rv
    unfold enumDD at h1
    split at h1
    · rename_i xs w1 t1 q1
      split at h1
      · exact h1.elim
      · rename_i ht
        have ht : t1 = false := by simpa using ht
        subst ht
        obtain ⟨a1, rfl, ⟨v1, i1⟩, k1⟩ := seq_ok so1 rw1 q1
        have hR := h1 W1 H1 Ext.refl so1
        rw [← g.K]
        rw [if_neg (by simp)] at i1
        refine ⟨a1, v1, rfl, i1, hR _ fun W3 H3 st3 x3 so3 lk i => ?_⟩
        obtain ⟨vs, rx, sx⟩ := k1 W3 H3 st3 x3 so3 lk
        rw [if_neg (by simp)] at sx
        refine ⟨fun d hd => ?_, fun hi => ⟨vs, sx, by rw [← rx.length]; simpa [enumD] using hi⟩⟩
        obtain ⟨x, hx, rfl⟩ := enum_get hd
        obtain ⟨vx, ex, rvx⟩ := rx.get hx
        refine ⟨⟨vs, vx, sx, ex⟩, fun z H' ⟨T, x', ez, hT, eH, g1⟩ => ?_⟩
        have e1 := g1 vs sx
        rw [ex] at e1; cases e1
        subst ez eH
        exact tup2_ok so3 hT (.int _) rvx
    · exact h1.elim
end
end MM
end

section
set_option Elab.async false
set_option linter.all false
set_option maxRecDepth 100000
set_option maxHeartbeats 4000000
/-! MMSS: the judgements of the evaluator's statements. -/
namespace MM
open PySem L2 PyProof.Rows
def AftS (S : Sta) (Wx : WX) (D : Ends) (W : List Addr) (H : Hp) (r : SRes) : Prop :=
  match r with
  | .nxt ρ' st' => ∀ W' H' σ', Ext W H W' H' → StOk S.G W' st' H' → EnvOk S.G.k W' H' ρ' σ' → D.nx σ' H'
  | .brk ρ' st' => ∀ W' H' σ', Ext W H W' H' → StOk S.G W' st' H' → EnvOk S.G.k W' H' ρ' σ' → D.bk σ' H'
  | .cnt ρ' st' => ∀ W' H' σ', Ext W H W' H' → StOk S.G W' st' H' → EnvOk S.G.k W' H' ρ' σ' → D.ct σ' H'
  | .ret d st' => ∀ W' H' v, Ext W H W' H' → StOk S.G W' st' H' → Rep S.G.k W' H' d v → D.rt v H'
  | .exc e ρ' st' => ∀ W' H' σ' cls dd, Ext W H W' H' → StOk S.G W' st' H' → EnvOk S.G.k W' H' ρ' σ' → ExOk S.G S.xs W' H' e cls dd → Wx cls dd σ' H'
  | .bad => False
def RS (S : Sta) (Wx : WX) (f : Env → Store → SRes) : TS := fun D σ H => ∃ W ρ st, Rl S W ρ st σ H ∧ AftS S Wx D W H (f ρ st)
def SSt (S : Sta) (X : Cx) (f : Env → Store → SRes) (s : Stmt) : Prop := ∀ Wx, Takes X Wx → PS X s (RS S Wx f)
def SSs (S : Sta) (X : Cx) (f : Env → Store → SRes) (ss : List Stmt) : Prop := ∀ Wx, Takes X Wx → PSs X ss (RS S Wx f)
section
variable {S : Sta} {Wx : WX} {D D' : Ends} {W W1 : List Addr} {H H1 : Hp} {σ : L2.St} {α : Type}
/-- seen from later on -/
theorem AftS.later {r : SRes} (h : AftS S Wx D W H r) (x : Ext W H W1 H1) : AftS S Wx D W1 H1 r := by
  cases r with
  | nxt ρ' st' => intro W' H' σ' x' so eo; exact h W' H' σ' (x.trans x') so eo
  | brk ρ' st' => intro W' H' σ' x' so eo; exact h W' H' σ' (x.trans x') so eo
  | cnt ρ' st' => intro W' H' σ' x' so eo; exact h W' H' σ' (x.trans x') so eo
  | ret d st' => intro W' H' σ' x' so eo; exact h W' H' σ' (x.trans x') so eo
  | exc e ρ' st' => intro W' H' σ' cls dd x' so eo q; exact h W' H' σ' cls dd (x.trans x') so eo q
  | bad => exact h
/-- an expression first -/
theorem AftS.of {r : Res α} {ρ : Env} {k : α → Store → SRes} {so : Store → Prop} (eo : ∀ W' H', Ext W H W' H' → EnvOk S.G.k W' H' ρ σ) (h : AftS S Wx D W H (SRes.of r ρ k)) : Aft S Wx σ W H r (fun _ _ a st' => AftS S Wx D W H (k a st')) := by
  cases r with
  | ok a st => intro W' H' x so; exact h
  | exc e st => intro W' H' cls dd x so q; exact h W' H' σ cls dd x so (eo _ _ x) q
  | bad => exact h
theorem AftS.of2 {r : Res α} {ρ : Env} {k : α → Store → SRes} (x : Ext W H W1 H1) (eo : ∀ W' H', Ext W1 H1 W' H' → EnvOk S.G.k W' H' ρ σ) (h : AftS S Wx D W H (SRes.of r ρ k)) : Aft S Wx σ W1 H1 r (fun W' H' a st' => Ext W H W' H' ∧ AftS S Wx D W H (k a st')) := by
  cases r with
  | ok a st => intro W' H' x' so; exact ⟨x.trans x', h⟩
  | exc e st => intro W' H' cls dd x' so q; exact h W' H' σ cls dd (x.trans x') so (eo _ _ x') q
  | bad => exact h
end
theorem Rl.eo' {S : Sta} {W : List Addr} {ρ : Env} {st : Store} {σ : L2.St} {H : Hp} (r : Rl S W ρ st σ H) : ∀ W' H', Ext W H W' H' → EnvOk S.G.k W' H' ρ σ := fun _ _ x => r.eo.ext x
theorem EnvOk.set' {K : Kl} {W : List Addr} {H : Hp} {ρ : Env} {σ : L2.St} {i : Nat} {v : Option V} (e : EnvOk K W H ρ σ) : EnvOk K W H (ρ.set i none) (σ.set i v) := by
  refine ⟨by simpa using e.1, fun j d' h => ?_⟩
  by_cases hj : i = j
  · subst hj
    rw [List.getElem?_set] at h
    simp only [if_true] at h
    split at h <;> cases h
  · rw [List.getElem?_set_ne hj] at h ⊢
    exact e.2 j d' h
/-- the context of statements -/
structure GS (S : Sta) (k : Nat) (X : Cx) (N : List Str) (sc : Scope) : Prop extends GX S k X N sc where
  ps : PassesOwn (model X.prog X.w) X.A X.env X.xe
  cel : CelOk X yesC
  stk : X.stack = X.env :: X.outer
  fr : X.env.frame = some X.env.locals
  kn : X.env.scope.kind = .function
section
variable {S : Sta} {k : Nat} {X : Cx} {N : List Str} {sc : Scope} {Wx : WX} {pos p : Pos} {tb : Tb}
/-! ### lists of statements -/
theorem ss_nil {f : Env → Store → SRes} (hf : ∀ ρ st, f ρ st = .nxt ρ st) : SSs S X f [] := by
  intro Wx tk
  refine pss_imp pss_nil fun D σ H h => ?_
  obtain ⟨W, ρ, st, r, h⟩ := h
  rw [hf] at h
  exact h W H σ Ext.refl r.so r.eo
theorem ss_cons (hcu : S.plain) {fa fr f : Env → Store → SRes} {s : Stmt} {ss : List Stmt} (ha : SSt S X fa s) (hr : SSs S X fr ss) (hf : ∀ ρ st, f ρ st = match fa ρ st with | .nxt ρ1 st1 => fr ρ1 st1 | r => r) : SSs S X f (s :: ss) := by
  intro Wx tk
  refine pss_imp (pss_cons (ha Wx tk) (hr Wx tk)) fun D σ H h => ?_
  obtain ⟨W, ρ, st, r, h⟩ := h
  rw [hf] at h
  refine ⟨W, ρ, st, r, ?_⟩
  cases e : fa ρ st with
  | nxt ρ1 st1 =>
    rw [e] at h
    intro W1 H1 σ1 x1 so1 eo1
    exact ⟨W1, ρ1, st1, Rl.mk0 hcu (so1) (eo1), AftS.later h x1⟩
  | brk ρ1 st1 => rw [e] at h; exact h
  | cnt ρ1 st1 => rw [e] at h; exact h
  | ret d st1 => rw [e] at h; exact h
  | exc e1 ρ1 st1 => rw [e] at h; exact h
  | bad => rw [e] at h; exact h
theorem ss_one {f : Env → Store → SRes} {s : Stmt} (ha : SSt S X f s) : SSs S X f [s] := fun Wx tk => pss_one (ha Wx tk)
/-! ### plain statements -/
theorem ss_pass {f : Env → Store → SRes} (hf : ∀ ρ st, f ρ st = .nxt ρ st) : SSt S X f (.Pass pos) := by
  intro Wx tk
  refine ps_imp ps_pass fun D σ H ⟨W, ρ, st, r, h⟩ => ?_
  rw [hf] at h
  exact h W H σ Ext.refl r.so r.eo
theorem ss_brk {f : Env → Store → SRes} (hf : ∀ ρ st, f ρ st = .brk ρ st) : SSt S X f (.Break pos) := by
  intro Wx tk
  refine ps_imp ps_break fun D σ H ⟨W, ρ, st, r, h⟩ => ?_
  rw [hf] at h
  exact h W H σ Ext.refl r.so r.eo
theorem ss_cnt {f : Env → Store → SRes} (hf : ∀ ρ st, f ρ st = .cnt ρ st) : SSt S X f (.Continue pos) := by
  intro Wx tk
  refine ps_imp ps_continue fun D σ H ⟨W, ρ, st, r, h⟩ => ?_
  rw [hf] at h
  exact h W H σ Ext.refl r.so r.eo
theorem sw_plain {e : Expr} {t : Option Expr} {l : Nat} {env : PySem.Env} (h : noComp e = true) : swapsWith e t l env = pure false := by
  cases e <;> first | rfl | cases h
theorem ss_expr {fe : Env → Store → Res MM.D} {f : Env → Store → SRes} {e : Expr} (he : SE S X fe e) (hn : noComp e = true) (hf : ∀ ρ st, f ρ st = SRes.of (fe ρ st) ρ fun _ st1 => .nxt ρ (gc st st1 0)) : SSt S X f (.Expr e pos) := by
  intro Wx tk
  refine ps_imp (ps_expr (he Wx tk) (sw_plain hn)) fun D σ H ⟨W, ρ, st, r, h⟩ => ?_
  rw [hf] at h
  refine ⟨W, ρ, st, r, (AftS.of (so := fun _ => True) r.eo' h).mono fun W1 H1 d st1 x1 so1 h1 v rv => ?_⟩
  obtain ⟨W2, x2, so2, _⟩ := gc_ok (l := 0) r.so x1 so1
  exact h1 W2 H1 σ x2 so2 (r.eo.ext x2)
theorem ss_ret {fe : Env → Store → Res MM.D} {f : Env → Store → SRes} {e : Expr} (he : SE S X fe e) (hf : ∀ ρ st, f ρ st = SRes.of (fe ρ st) ρ fun d st1 => .ret d st1) : SSt S X f (.Return (some e) pos) := by
  intro Wx tk
  refine ps_imp (ps_ret (he Wx tk)) fun D σ H ⟨W, ρ, st, r, h⟩ => ?_
  rw [hf] at h
  exact ⟨W, ρ, st, r, (AftS.of (so := fun _ => True) r.eo' h).mono fun W1 H1 d st1 x1 so1 h1 v rv => h1 W1 H1 v x1 so1 rv⟩
theorem ss_retN {f : Env → Store → SRes} (hf : ∀ ρ st, f ρ st = .ret .non st) : SSt S X f (.Return none pos) := by
  intro Wx tk
  refine ps_imp ps_retN fun D σ H ⟨W, ρ, st, r, h⟩ => ?_
  rw [hf] at h
  exact h W H .non Ext.refl r.so .non
/-- the reading of an assignment to a name -/
theorem asg_imp {fe : Env → Store → Res MM.D} {f : Env → Store → SRes} {i : Nat} (hf : ∀ ρ st, f ρ st = SRes.of (fe ρ st) ρ fun d st1 => .nxt (ρ.set i (some d)) (gc st st1 d.lim)) {D : Ends} {σ : L2.St} {H : Hp} (h : RS S Wx f D σ H) : tAsg (RT S Wx fe) (gName i) D σ H := by
  obtain ⟨W, ρ, st, r, h⟩ := h
  rw [hf] at h
  refine ⟨W, ρ, st, r, (AftS.of (so := fun _ => True) r.eo' h).mono fun W1 H1 d st1 x1 so1 h1 v rv => ?_⟩
  obtain ⟨W2, x2, so2, g1, _, _⟩ := gc_ok (l := d.lim) r.so x1 so1
  exact h1 W2 H1 _ x2 so2 ((r.eo.ext x2).set (g1 d v (Nat.le_refl _) rv))
theorem ss_asg (g : GX S k X N sc) {cel : Str → Bool} (hfn : CelOk X cel) {fe : Env → Store → Res MM.D} {f : Env → Store → SRes} {i : Nat} {x : Str} {e : Expr} (hi : N[i]? = some x) (hx : stoB cel sc x = true) (he : SE S X fe e) (hs : swapsWith e (some (.Name x p)) pos.line X.env = pure false)
    (hf : ∀ ρ st, f ρ st = SRes.of (fe ρ st) ρ fun d st1 => .nxt (ρ.set i (some d)) (gc st st1 d.lim)) : SSt S X f (.Assign [.Name x p] e pos) := by
  intro Wx tk
  obtain ⟨h1, h2⟩ := sto_fn g hfn hx
  exact ps_imp (ps_set (by rw [g.nm]; exact g.nd) (by rw [g.nm]; exact hi) h1 (he Wx tk) hs h2) fun D σ H h => asg_imp hf h
theorem ss_asgC (g : GX S k X N sc) {fe : Env → Store → Res MM.D} {f : Env → Store → SRes} {i : Nat} {x : Str} {e : Expr} (hi : N[i]? = some x) (hx : sc.names.lookup x = some .local) (he : SAs S X fe e) (hs : swapsWith e (some (.Name x p)) pos.line X.env = pure true)
    (hf : ∀ ρ st, f ρ st = SRes.of (fe ρ st) ρ fun d st1 => .nxt (ρ.set i (some d)) (gc st st1 d.lim)) : SSt S X f (.Assign [.Name x p] e pos) := by
  intro Wx tk
  exact ps_imp (he Wx tk i x p pos (by rw [g.nm]; exact hi) (by rw [g.sc]; exact hx) hs) fun D σ H h => asg_imp hf h
theorem ss_asgT (g : GX S k X N sc) (hc : X.calm = true) {cel : Str → Bool} (hfn : CelOk X cel) {fe : Env → Store → Res MM.D} {f : Env → Store → SRes} {is : List Nat} {es : List Expr} {kk : Nat} {tp : Pos} {e : Expr} (ht : tgNs N cel sc is es = true) (he : SE S X fe e)
    (hs : swapsWithSole [.Tuple es kk tp] e pos.line X.env = pure false) (hw : swappedStores [.Tuple es kk tp] e X.env = pure none)
    (hf : ∀ ρ st, f ρ st = SRes.of (fe ρ st) ρ fun d st1 => match d with | .tup xs => (match asgN is xs ρ with | some ρ1 => .nxt ρ1 (gc st st1 (MM.D.lims xs)) | none => .bad) | _ => .bad) : SSt S X f (.Assign [.Tuple es kk tp] e pos) := by
  intro Wx tk
  refine ps_imp (ps_asg (he Wx tk) (pg_of g hfn hc (t := .t is) (show tgB N cel sc (.t is) (.Tuple es kk tp) = true from ht)) hs hw) fun D σ H ⟨W, ρ, st, r, h⟩ => ?_
  rw [hf] at h
  refine ⟨W, ρ, st, r, (AftS.of (so := fun _ => True) r.eo' h).mono fun W1 H1 d st1 x1 so1 h1 v rv => ?_⟩
  split at h1
  · rename_i xs
    split at h1
    · rename_i ρ1 e1
      obtain ⟨W2, x2, so2, g1, g2, _⟩ := gc_ok (l := MM.D.lims xs) r.so x1 so1
      have rv2 := g1 _ v (by simp only [MM.D.lim]; exact Nat.le_refl _) rv
      obtain ⟨σ1, q1, _, q3⟩ := asgTg_ok (t := .t is) (d := .tup xs) (ρ := ρ) (ρ1 := ρ1) e1 (r.eo.ext x2) rv2
      rw [← g.K]
      exact q3 _ (h1 W2 H1 σ1 x2 so2 q1)
    · exact h1.elim
  · exact h1.elim
theorem gc_reps {G : Gam} {W W1 : List Addr} {H H1 : Hp} {st st1 : Store} {ds : List MM.D} {vs : List V} (s : StOk G W st H) (x : Ext W H W1 H1) (s1 : StOk G W1 st1 H1) (r : Reps G.k W1 H1 ds vs) : ∃ W2, Ext W H W2 H1 ∧ StOk G W2 (gc st st1 (MM.D.lims ds)) H1 ∧ Reps G.k W2 H1 ds vs := by
  obtain ⟨W2, x2, so2, _, g2, _⟩ := gc_ok (l := MM.D.lims ds) s x s1
  exact ⟨W2, x2, so2, g2 _ _ (Nat.le_refl _) r⟩
theorem ss_par2 (g : GX S k X N sc) (hc : X.calm = true) {fa : Env → Store → Res (List MM.D)} {f : Env → Store → SRes} {i j : Nat} {x y : Str} {a b : Expr} {px py pt pt2 : Pos} {kt k2 : Nat} (hi : N[i]? = some x) (hj : N[j]? = some y) (hij : i ≠ j) (hx : sc.names.lookup x = some .local) (hy : sc.names.lookup y = some .local) (ha : SA S X fa [a, b])
    (hw : swappedStores [.Tuple [.Name x px, .Name y py] kt pt] (.Tuple [a, b] k2 pt2) X.env = pure (some [x, y]))
    (hf : ∀ ρ st, f ρ st = SRes.of (fa ρ st) ρ fun ds st1 => match asgN [i, j] ds ρ with | some ρ1 => .nxt ρ1 (gc st st1 (MM.D.lims ds)) | none => .bad) : SSt S X f (.Assign [.Tuple [.Name x px, .Name y py] kt pt] (.Tuple [a, b] k2 pt2) pos) := by
  intro Wx tk
  refine ps_imp (ps_par hc (by rw [g.nm]; exact g.nd) (by rw [g.nm]; exact hi) (by rw [g.nm]; exact hj) hij (by rw [g.sc]; exact hx) (by rw [g.sc]; exact hy) (ha Wx tk) hw) fun D σ H ⟨W, ρ, st, r, h⟩ => ?_
  rw [hf] at h
  refine ⟨W, ρ, st, r, (AftS.of (so := fun _ => True) r.eo' h).mono fun W1 H1 ds st1 x1 so1 h1 vs rv => ?_⟩
  split at h1
  · rename_i ρ1 e1
    obtain ⟨W2, x2, so2, rv2⟩ := gc_reps r.so x1 so1 rv
    have hl := asgN_len e1
    match ds, vs, rv2, hl, e1 with
    | [d1, d2], [v, w], .cons r1 (.cons r2 .nil), _, e1 =>
      simp only [asgN, Option.some.injEq] at e1
      subst e1
      exact ⟨v, w, rfl, h1 W2 H1 _ x2 so2 (((r.eo.ext x2).set r1).set r2)⟩
  · exact h1.elim
theorem ss_par3 (g : GX S k X N sc) (hc : X.calm = true) {fa : Env → Store → Res (List MM.D)} {f : Env → Store → SRes} {i j l : Nat} {x y z : Str} {a b c : Expr} {px py pz pt pt2 : Pos} {kt k2 : Nat} (hi : N[i]? = some x) (hj : N[j]? = some y) (hl : N[l]? = some z) (hij : i ≠ j) (hil : i ≠ l) (hjl : j ≠ l) (hx : sc.names.lookup x = some .local) (hy : sc.names.lookup y = some .local) (hz : sc.names.lookup z = some .local) (ha : SA S X fa [a, b, c])
    (hw : swappedStores [.Tuple [.Name x px, .Name y py, .Name z pz] kt pt] (.Tuple [a, b, c] k2 pt2) X.env = pure (some [x, y, z]))
    (hf : ∀ ρ st, f ρ st = SRes.of (fa ρ st) ρ fun ds st1 => match asgN [i, j, l] ds ρ with | some ρ1 => .nxt ρ1 (gc st st1 (MM.D.lims ds)) | none => .bad) : SSt S X f (.Assign [.Tuple [.Name x px, .Name y py, .Name z pz] kt pt] (.Tuple [a, b, c] k2 pt2) pos) := by
  intro Wx tk
  refine ps_imp (ps_par3 hc (by rw [g.nm]; exact g.nd) (by rw [g.nm]; exact hi) (by rw [g.nm]; exact hj) (by rw [g.nm]; exact hl) hij hil hjl (by rw [g.sc]; exact hx) (by rw [g.sc]; exact hy) (by rw [g.sc]; exact hz) (ha Wx tk) hw) fun D σ H ⟨W, ρ, st, r, h⟩ => ?_
  rw [hf] at h
  refine ⟨W, ρ, st, r, (AftS.of (so := fun _ => True) r.eo' h).mono fun W1 H1 ds st1 x1 so1 h1 vs rv => ?_⟩
  split at h1
  · rename_i ρ1 e1
    obtain ⟨W2, x2, so2, rv2⟩ := gc_reps r.so x1 so1 rv
    have hl := asgN_len e1
    match ds, vs, rv2, hl, e1 with
    | [d1, d2, d3], [v, w, u], .cons r1 (.cons r2 (.cons r3 .nil)), _, e1 =>
      simp only [asgN, Option.some.injEq] at e1
      subst e1
      exact ⟨v, w, u, rfl, h1 W2 H1 _ x2 so2 ((((r.eo.ext x2).set r1).set r2).set r3)⟩
  · exact h1.elim
theorem ss_set (g : GX S k X N sc) {fe fo fi : Env → Store → Res MM.D} {f : Env → Store → SRes} {o i e : Expr} {sp : Pos} (he : SE S X fe e) (ho : SE S X fo o) (hi : SE S X fi i) (hn : noSlice i = true)
    (hf : ∀ ρ st, f ρ st = SRes.of (fe ρ st) ρ fun d st1 => SRes.of (fo ρ st1) ρ fun x st2 => SRes.of (fi ρ st2) ρ fun y st3 => match setD x y d st3 with | some st4 => .nxt ρ (gc st st4 0) | none => .bad) : SSt S X f (.Assign [.Subscript o i sp] e pos) := by
  intro Wx tk
  have hs : swapsWithSole [.Subscript o i sp] e pos.line X.env = pure false := by cases e <;> rfl
  have hw : swappedStores [.Subscript o i sp] e X.env = pure none := rfl
  refine ps_imp (ps_asg (he Wx tk) (pg_sub (ho Wx tk) (hi Wx tk) (set_ok (G := S.G) (by have := g.un; omega)) (fun v => by cases i <;> first | rfl | cases hn)) hs hw) fun D σ H ⟨W, ρ, st, r, h⟩ => ?_
  rw [hf] at h
  refine ⟨W, ρ, st, r, (AftS.of2 Ext.refl r.eo' h).mono fun W1 H1 d st1 x1 so1 ⟨_, h1⟩ v rv => ?_⟩
  have r1 := r.next x1 so1
  refine ⟨W1, ρ, st1, r1, (AftS.of2 x1 r1.eo' h1).mono fun W2 H2 x st2 x2 so2 ⟨x12, h2⟩ vo ro => ?_⟩
  have r2 := r1.next x2 so2
  refine ⟨W2, ρ, st2, r2, (AftS.of2 x12 r2.eo' h2).mono fun W3 H3 y st3 x3 so3 ⟨x13, h3⟩ vi ri => ?_⟩
  cases e1 : setD x y d st3 with
  | none => rw [e1] at h3; exact h3.elim
  | some st4 =>
    rw [e1] at h3
    refine ⟨W3, st3, x, y, d, so3, ro.ext x3, ri, (rv.ext x2).ext x3, ?_⟩
    rw [e1]
    intro H4 x4 so4
    obtain ⟨W5, x5, so5, _⟩ := gc_ok (l := 0) r.so (x13.trans x4) so4
    exact h3 W5 H4 σ x5 so5 (r.eo.ext x5)
theorem ss_aug (g : GX S k X N sc) {cel : Str → Bool} (hfn : CelOk X cel) {fe : Env → Store → Res MM.D} {f : Env → Store → SRes} {i : Nat} {x : Str} {op : Operator} {e : Expr} (hop : op = .Add ∨ op = .Sub) (hi : N[i]? = some x) (hx : stoB cel sc x = true) (he : SE S X fe e)
    (hf : ∀ ρ st, f ρ st = match ρ[i]? with | some (some x) => SRes.of (fe ρ st) ρ fun d st1 => SRes.of (augD op x d st1) ρ fun y st2 => .nxt (ρ.set i (some y)) (gc st st2 y.lim) | _ => .bad) : SSt S X f (.AugAssign (.Name x p) op e pos) := by
  intro Wx tk
  obtain ⟨h1, h2⟩ := sto_fn g hfn hx
  have key : ∀ (gg : Int → Int → Int), PIp X op (ipI gg) → (∀ a b st r, augD op a b st = r → r ≠ .bad → ∃ i j, a = .int i ∧ b = .int j ∧ r = .ok (.int (gg i j)) st) → PS X (.AugAssign (.Name x p) op e pos) (RS S Wx f) := by
    intro gg hp hd
    refine ps_imp (ps_aug (by rw [g.nm]; exact g.nd) (by rw [g.nm]; exact hi) h1 (he Wx tk) hp h2) fun D σ H ⟨W, ρ, st, r, h⟩ => ?_
    rw [hf] at h
    split at h
    · rename_i d0 e0
      obtain ⟨v0, q1, q2⟩ := r.eo.2 _ _ e0
      refine ⟨v0, q1, W, ρ, st, r, (AftS.of2 Ext.refl r.eo' h).mono fun W1 H1 d st1 x1 so1 ⟨_, h3⟩ v rv => ?_⟩
      obtain ⟨a, b, ea, eb, er⟩ := hd d0 d st1 _ rfl (fun z => by rw [z] at h3; exact h3.elim)
      subst ea eb
      rw [er] at h3
      cases q2
      cases rv
      obtain ⟨W2, x2, so2, _⟩ := gc_ok (l := 0) r.so x1 so1
      exact ⟨a, b, rfl, rfl, h3 W2 H1 _ x2 so2 ((r.eo.ext x2).set (.int _))⟩
    · exact h.elim
  rcases hop with rfl | rfl
  · refine key _ ip_add fun a b st r e hr => ?_
    subst e
    cases a <;> cases b <;> first | exact ⟨_, _, rfl, rfl, rfl⟩ | exact absurd rfl hr
  · refine key _ ip_sub fun a b st r e hr => ?_
    subst e
    cases a <;> cases b <;> first | exact ⟨_, _, rfl, rfl, rfl⟩ | exact absurd rfl hr
/-! ### if, while, for -/
theorem evt_ok {fc : Env → Store → Res MM.D} {ft : Env → Store → Res Bool} (hf : ∀ ρ st, ft ρ st = (fc ρ st).bind fun d st1 => match truD d st1 with | some k => .ok k (gc st st1 0) | none => .bad) {σ : L2.St} {W W0 : List Addr} {H H0 : Hp} {ρ : Env} {st : Store} {k : Bool → Store → SRes} {D : Ends} {Q : Bool → Hp → Prop}
    (r : Rl S W ρ st σ H) (x : Ext W0 H0 W H) (h : AftS S Wx D W0 H0 (SRes.of (ft ρ st) ρ k)) (hq : ∀ b st2 W2 H2, Ext W H W2 H2 → StOk S.G W2 st2 H2 → AftS S Wx D W0 H0 (k b st2) → Q b H2) : RTT S Wx fc σ H Q := by
  refine ⟨W, ρ, st, r, ?_⟩
  rw [hf] at h
  cases e : fc ρ st with
  | ok d st1 =>
    rw [e] at h
    intro W1 H1 x1 so1
    cases e2 : truD d st1 with
    | none => simp only [Res.bind_ok, e2] at h; exact h.elim
    | some b =>
      simp only [Res.bind_ok, e2] at h
      obtain ⟨W2, x2, so2, _⟩ := gc_ok (l := 0) r.so x1 so1
      exact ⟨b, rfl, hq b _ W2 H1 x2 so2 h⟩
  | exc ex st1 =>
    rw [e] at h
    intro W1 H1 cls dd x1 so1 q
    exact h W1 H1 σ cls dd (x.trans x1) so1 (r.eo.ext x1) q
  | bad => rw [e] at h; exact h.elim
theorem ss_if {fc : Env → Store → Res MM.D} {ft : Env → Store → Res Bool} {fa fb f : Env → Store → SRes} {c : Expr} {a b : List Stmt} (hc : ST S X fc c) (ha : SSs S X fa a) (hb : SSs S X fb b)
    (ht : ∀ ρ st, ft ρ st = (fc ρ st).bind fun d st1 => match truD d st1 with | some k => .ok k (gc st st1 0) | none => .bad) (hf : ∀ ρ st, f ρ st = SRes.of (ft ρ st) ρ fun k st1 => if k then fa ρ st1 else fb ρ st1) : SSt S X f (.If c a b pos) := by
  intro Wx tk
  refine ps_imp (ps_if (hc Wx tk) (ha Wx tk) (hb Wx tk)) fun D σ H ⟨W, ρ, st, r, h⟩ => ?_
  rw [hf] at h
  refine evt_ok ht r Ext.refl h (fun k st2 W2 H2 x2 so2 h2 => ?_)
  cases k with
  | true => exact ⟨W2, ρ, st2, r.next x2 so2, AftS.later h2 x2⟩
  | false => exact ⟨W2, ρ, st2, r.next x2 so2, AftS.later h2 x2⟩
theorem ss_whl (hcu : S.plain) (gs : GS S k X N sc) {fc : Env → Store → Res MM.D} {ft : Env → Store → Res Bool} {fb f : Env → Store → SRes} {c : Expr} {b : List Stmt} (hc : ST S X fc c) (hb : SSs S X fb b)
    (ht : ∀ ρ st, ft ρ st = (fc ρ st).bind fun d st1 => match truD d st1 with | some k => .ok k (gc st st1 0) | none => .bad) (hf : ∀ ρ st, f ρ st = whlN ft fb fuelW ρ st) : SSt S X f (.While c b [] pos) := by
  intro Wx tk
  refine ps_imp (ps_while gs.ps (hc Wx tk) (hb Wx tk)) fun D σ H ⟨W, ρ, st, r, h⟩ => ?_
  rw [hf] at h
  refine ⟨fun m σ' H' => ∃ W1 ρ1 st1, Ext W H W1 H' ∧ Rl S W1 ρ1 st1 σ' H' ∧ AftS S Wx D W H (whlN ft fb m ρ1 st1), ⟨fuelW, W, ρ, st, Ext.refl, r, h⟩, ?_⟩
  rintro m σ1 H1 ⟨W1, ρ1, st1, x1, r1, h1⟩
  cases m with
  | zero => exact h1.elim
  | succ n =>
    simp only [whlN] at h1
    refine evt_ok ht r1 x1 h1 (fun k st2 W2 H2 x2 so2 h2 => ?_)
    · have x12 := x1.trans x2
      cases k with
      | false =>
        rw [if_neg Bool.false_ne_true]
        exact h2 W2 H2 σ1 x12 so2 (r1.eo.ext x2)
      | true =>
        rw [if_pos rfl]
        refine ⟨fun σ' H' => ∃ W' ρ' st', Ext W H W' H' ∧ Rl S W' ρ' st' σ' H' ∧ AftS S Wx D W H (whlN ft fb n ρ' st'), fun σ' H' q => ⟨n, Nat.lt_succ_self n, q⟩, W2, ρ1, st2, r1.next x2 so2, ?_⟩
        simp only [if_true] at h2
        cases e : fb ρ1 st2 with
        | nxt ρ2 st3 => rw [e] at h2; intro W3 H3 σ3 x3 so3 eo3; exact ⟨W3, ρ2, st3, x12.trans x3, Rl.mk0 hcu (so3) (eo3), h2⟩
        | cnt ρ2 st3 => rw [e] at h2; intro W3 H3 σ3 x3 so3 eo3; exact ⟨W3, ρ2, st3, x12.trans x3, Rl.mk0 hcu (so3) (eo3), h2⟩
        | brk ρ2 st3 => rw [e] at h2; intro W3 H3 σ3 x3 so3 eo3; exact h2 W3 H3 σ3 (x12.trans x3) so3 eo3
        | ret d st3 => rw [e] at h2; intro W3 H3 v x3 so3 rv; exact h2 W3 H3 v (x12.trans x3) so3 rv
        | exc ex ρ2 st3 => rw [e] at h2; intro W3 H3 σ3 cls dd x3 so3 eo3 q; exact h2 W3 H3 σ3 cls dd (x12.trans x3) so3 eo3 q
        | bad => rw [e] at h2; exact h2.elim
theorem ss_for (hcu : S.plain) (gs : GS S k X N sc) (hc : X.calm = true) {fi : Env → Store → Res Src} {fb f : Env → Store → SRes} {t : Tg} {tg iter : Expr} {b : List Stmt} (hi : SI S X fi tg iter) (htg : tgB N yesC sc t tg = true) (hb : SSs S X fb b) (hs : noSetD iter = true)
    (hf : ∀ ρ st, f ρ st = SRes.of (fi ρ st) ρ fun p st1 => forL fb t p.2 p.1 ρ st1) : SSt S X f (.For tg iter b [] pos) := by
  intro Wx tk
  refine ps_imp (ps_for gs.ps hc (hi Wx tk) (pg_of gs.toGX gs.cel hc htg) (hb Wx tk) (fold_plain hs)) fun D σ H ⟨W, ρ, st, r, h⟩ => ?_
  rw [hf] at h
  refine ⟨W, ρ, st, r, (AftS.of2 Ext.refl r.eo' h).mono fun W0 H0 q st0 x0 so0 ⟨_, h0⟩ J hJ => ?_⟩
  have h0 := h0.later x0
  have hK := gs.K
  refine ⟨fun i m σ' H' => m = q.1.length - i ∧ i ≤ q.1.length ∧ ∃ W1 ρ1 st1, Ext W0 H0 W1 H' ∧ Rl S W1 ρ1 st1 σ' H' ∧ AftS S Wx D W0 H0 (forL fb t q.2 (q.1.drop i) ρ1 st1), ⟨q.1.length, by simp, Nat.zero_le _, W0, ρ, st0, Ext.refl, r.next x0 so0, h0⟩, ?_⟩
  rintro i m σ1 H1 ⟨rfl, hi, W1, ρ1, st1, x1, r1, h1⟩
  have lock : wOk q.2 st1 := by
    cases e : q.1.drop i with
    | nil =>
      rw [e] at h1
      simp only [forL] at h1
      split at h1
      · assumption
      · exact h1.elim
    | cons y ys =>
      rw [e] at h1
      simp only [forL] at h1
      split at h1
      · assumption
      · exact h1.elim
  have it := hJ W1 H1 st1 x1 r1.so lock i
  by_cases hlt' : i < q.1.length
  · right
    obtain ⟨go, yld⟩ := it.1 _ (List.getElem?_eq_getElem hlt')
    refine ⟨go, fun σ' H' => ∃ W' ρ' st', Ext W0 H0 W' H' ∧ Rl S W' ρ' st' σ' H' ∧ AftS S Wx D W0 H0 (forL fb t q.2 (q.1.drop (i + 1)) ρ' st'), fun σ' H' n => ⟨q.1.length - (i + 1), by omega, rfl, hlt', n⟩, fun x H' y => ?_⟩
    obtain ⟨xy, soy, rd⟩ := yld x H' y
    have r1 := r1.next xy soy
    have x1 := x1.trans xy
    generalize hdd : q.1[i] = d at rd
    have hdrop : q.1.drop i = d :: q.1.drop (i + 1) := by
      rw [List.drop_eq_getElem_cons hlt', hdd]
    rw [hdrop] at h1
    simp only [forL, if_pos lock] at h1
    cases ea : asgTg t d ρ1 with
    | none => rw [ea] at h1; exact h1.elim
    | some ρ2 =>
      rw [ea] at h1
      simp only at h1
      obtain ⟨σ2, e1, _, e3⟩ := asgTg_ok ea r1.eo rd
      rw [← hK]
      refine e3 _ ⟨W1, ρ2, st1, Rl.mk0 hcu (r1.so) (e1), ?_⟩
      cases e : fb ρ2 st1 with
      | nxt ρ3 st3 => rw [e] at h1; intro W3 H3 σ3 x3 so3 eo3; exact ⟨W3, ρ3, st3, x1.trans x3, Rl.mk0 hcu (so3) (eo3), h1⟩
      | cnt ρ3 st3 => rw [e] at h1; intro W3 H3 σ3 x3 so3 eo3; exact ⟨W3, ρ3, st3, x1.trans x3, Rl.mk0 hcu (so3) (eo3), h1⟩
      | brk ρ3 st3 => rw [e] at h1; intro W3 H3 σ3 x3 so3 eo3; exact h1 W3 H3 σ3 (x1.trans x3) so3 eo3
      | ret d st3 => rw [e] at h1; intro W3 H3 v x3 so3 rv; exact h1 W3 H3 v (x1.trans x3) so3 rv
      | exc ex ρ3 st3 => rw [e] at h1; intro W3 H3 σ3 cls dd x3 so3 eo3 q; exact h1 W3 H3 σ3 cls dd (x1.trans x3) so3 eo3 q
      | bad => rw [e] at h1; exact h1.elim
  · left
    have hie : i = q.1.length := by omega
    refine ⟨it.2 (by omega), ?_⟩
    rw [hie, List.drop_length] at h1
    simp only [forL, if_pos lock] at h1
    exact h1 W1 H1 σ1 x1 r1.so r1.eo
end
end MM
end

section
set_option Elab.async false
set_option linter.all false
set_option maxRecDepth 100000
set_option maxHeartbeats 4000000
/-! MMSS2: raise and try. -/
namespace MM
open PySem L2 PyProof.Rows
/-- the promise of an exception class's own __init__: it stores its arguments -/
def spI (C : Addr) (fl : List Str) : Sp := fun vs H Q _ => ∃ a ws, vs = .ref a :: ws ∧ ws.length = fl.length ∧ H a = some (exo a C none) ∧
  ∀ d H2, H d = none → d ≠ a → H2 a = some (exo a C (some d)) → H2 d = some (exd d (fl.zip ws).reverse) → (∀ b, b ≠ a → b ≠ d → H2 b = H b) → Q .non H2
structure ExcAt (S : Sta) (c : Str) (fl : List Str) : Prop where
  ex : ∃ C fI fd ps, S.xs c = some C ∧ OexC S.G.k.K C ∧ S.G.mg c = some (.ref C) ∧ PySem.W.findIn S.G.k.K (.ref C) "__init__" = some (some (.ref fI)) ∧ PySem.W.typeIn S.G.k.K (.ref fI) = some (.type "function") ∧ Binds S.G.k.K fd ps [] ∧
    FnOk S.G.P S.G.w S.G.k.K S.G.mg S.G.base (L2.CX S.G.P S.G.w) 1 fI fd ps (spI C fl)
  few : fl.length ≤ 1000
theorem Paired.rev {α β : Type} {R : α → β → Prop} : ∀ {xs : List α} {ys : List β}, Paired R xs ys → Paired R xs.reverse ys.reverse := by
  intro xs ys h
  have app : ∀ {as : List α} {bs : List β} {cs : List α} {ds : List β}, Paired R as bs → Paired R cs ds → Paired R (as ++ cs) (bs ++ ds) := by
    intro as bs cs ds h1 h2
    induction h1 with
    | nil => exact h2
    | cons q _ ih => exact .cons q ih
  induction h with
  | nil => exact .nil
  | cons q _ ih => rw [List.reverse_cons, List.reverse_cons]; exact app ih (.cons q .nil)
theorem fld_zip {K : Kl} {W : List Addr} {H : Hp} : ∀ {fl : List Str} {ds : List MM.D} {vs : List V}, Reps K W H ds vs → FldR K W H (fl.zip ds) (fl.zip vs)
  | [], _, _, _ => .nil
  | _ :: _, [], _, .nil => .nil
  | _ :: fl, _ :: _, _ :: _, .cons r rr => .cons ⟨rfl, r⟩ (fld_zip (fl := fl) rr)
section
variable {S : Sta} {k : Nat} {X : Cx} {N : List Str} {sc : Scope} {Wx : WX} {pos p : Pos} {tb : Tb}
theorem ss_raise {pos2 : Pos} (g : GX S k X N sc) (hk : 2 ≤ k) (hc : X.calm = true) {c : Str} {fl : List Str} (ea : ExcAt S c fl) {fa : Env → Store → Res (List MM.D)} {f : Env → Store → SRes} {e : Expr} {es : List Expr} (hg : Gl X c) (hx : (c == ("__debug__" : Str)) = false) (ha : SA S X fa (e :: es)) (hs : (e :: es).all noStar = true)
    (hf : ∀ ρ st, f ρ st = SRes.of (fa ρ st) ρ fun ds st1 => if ds.length = fl.length then .exc ⟨c, (fl.zip ds).reverse⟩ ρ (gc st st1 (MM.D.lims ds)) else .bad) : SSt S X f (.Raise (some (.Call (.Name c p) (e :: es) [] pos)) none pos2) := by
  intro Wx tk
  obtain ⟨C, fI, fd, ps, q1, q2, q3, q4, q5, q6, q7⟩ := ea.ex
  have q3 : X.mg c = some (.ref C) := by rw [g.mg]; exact q3
  have hK := g.K
  rw [hK] at q2 q4 q5 q6
  rw [← g.prog, ← g.w, ← g.mg, ← g.base, hK] at q7
  simp only [List.all_cons, Bool.and_eq_true] at hs
  have mk := pmk_oex (dvs := []) (ds := []) (pos := pos) (p := p) q2 q4 q5 q7 ((g.cm hc).mono (by omega)) q6 .nil (passes_call (E := fun _ _ _ => False) tk fun _ _ _ _ h => h.elim) hg q3 (ha Wx tk) hx (star_cons hs.1) (star_any hs.2)
  refine ps_imp (ps_raise hc tk mk) fun D σ H ⟨W, ρ, st, r, h⟩ => ?_
  rw [hf] at h
  refine ⟨W, ρ, st, r, (AftS.of2 Ext.refl r.eo' h).mono fun W1 H1 ds st1 x1 so1 ⟨_, h1⟩ vs rv => ?_⟩
  split at h1
  · rename_i hl
    have hlv : vs.length = fl.length := by rw [← rv.length]; exact hl
    refine ⟨by rw [hlv]; exact ea.few, fun a ha => ⟨a, vs, by rw [List.append_nil], hlv, upd_same, fun d H2 hd hda h2a h2d same => ⟨rfl, d, (fl.zip vs).reverse, h2a, h2d, ?_, ?_⟩⟩⟩
    · rw [upd_ne hda] at hd; exact hd
    · have hd1 : H1 d = none := by rw [upd_ne hda] at hd; exact hd
      have eH : upd (del H2 a) d (.xd (fl.zip vs).reverse) = upd H1 d (.xd (fl.zip vs).reverse) := by
        funext b
        by_cases hb : b = d
        · subst hb; rw [upd_same, upd_same]
        · rw [upd_ne hb, upd_ne hb]
          by_cases hba : b = a
          · subst hba; rw [del_same]; exact ha.symm
          · rw [del_ne hba, same b hba hb, upd_ne hba]
      rw [eH]
      obtain ⟨W2, x2, so2, rv2⟩ := gc_reps r.so x1 so1 rv
      have x3 : Ext W2 H1 W2 (upd H1 d (.xd (fl.zip vs).reverse)) := Ext.new hd1
      refine h1 W2 _ σ _ _ (x2.trans x3) (so2.new hd1) ((r.eo.ext x2).ext x3) ⟨C, q1, rfl, .inr ⟨d, _, rfl, upd_same, ?_⟩⟩
      exact Paired.rev (fld_zip (rv2.ext x3))
  · exact h1.elim
/-! ### try, with clauses that may name the exception -/
/-- a clause: the class, the slot of its name, the suite's reading -/
structure Cl where
  c : Value
  i : Option Nat
  ts : Addr → Value → Option Addr → TS
def wCl (K : PySem.W.Frag) (Wout : WX) (D : Ends) : List Cl → WX
  | [] => Wout
  | l :: r => fun cls d σ H => ∃ b, PySem.W.exmOne K cls l.c = some b ∧
      (b = true → ∀ a, H a = none → match l.i with
        | none => l.ts a cls d D σ H
        | some i => l.ts a cls d { nx := fun σ' H' => D.nx (σ'.set i none) H', rt := D.rt, bk := fun σ' H' => D.bk (σ'.set i none) H', ct := fun σ' H' => D.ct (σ'.set i none) H' } (σ.set i (some (.ref a))) H) ∧
      (b = false → wCl K Wout D r cls d σ H)
inductive ClsOf (X : Cx) : List ExceptHandler → List Cl → Prop
  | nil : ClsOf X [] []
  | plain {x : Str} {c : Value} {ts : Addr → Value → Option Addr → TS} {b₀ : Stmt} {suite : List Stmt} {np pos' : Pos} {hds : List ExceptHandler} {l : List Cl} (hc : Names X x c)
      (hsu : ∀ (a : Addr) (oe : Obj) (cls : Value) (d : Option Addr) (pn : List (Addr × Obj)), Zc cls d oe → (∃ vs, oe.data = .fields vs) → PSs (X.suite a ((a, oe) :: pn)) (b₀ :: suite) (ts a cls d)) (r : ClsOf X hds l) :
      ClsOf X (.ExceptHandler (some (.Name x np)) none (b₀ :: suite) pos' :: hds) (⟨c, none, ts⟩ :: l)
  | named {x n : Str} {c : Value} {i : Nat} {ts : Addr → Value → Option Addr → TS} {b₀ : Stmt} {suite : List Stmt} {np pos' : Pos} {hds : List ExceptHandler} {l : List Cl} (hc : Names X x c) (hi : X.N[i]? = some n) (hln : X.env.kindOf n = some .local)
      (hsu : ∀ (a : Addr) (oe : Obj) (cls : Value) (d : Option Addr) (pn : List (Addr × Obj)), Zc cls d oe → (∃ vs, oe.data = .fields vs) → PSs (X.suite a ((a, oe) :: pn)) (b₀ :: suite) (ts a cls d)) (r : ClsOf X hds l) :
      ClsOf X (.ExceptHandler (some (.Name x np)) (some n) (b₀ :: suite) pos' :: hds) (⟨c, some i, ts⟩ :: l)
theorem ps_tryC {body : List Stmt} {h₀ : ExceptHandler} {hds : List ExceptHandler} {l : List Cl} {tb : WX → TS} {Wout : WX} (hs : X.stack = X.env :: X.outer) (hf : X.env.frame = some X.env.locals) (hN : X.N.Nodup) (tk : Takes X Wout)
    (hb : ∀ (W : WX) (pn : List (Addr × Obj)) (xe : Value → Shared → Prop), Takes (X.tr pn xe) W → PassesOwn (model X.prog X.w) X.A X.env xe → PSs (X.tr pn xe) body (tb W))
    (hh : ClsOf X (h₀ :: hds) l) : PS X (.Try body (h₀ :: hds) [] [] pos) (fun D σ H => tb (wCl X.K Wout D l) D σ H) := by
  refine ⟨fun pins s σ H D I h => ?_⟩
  have ok := I.ok
  have hfr : X.A.frames = some (X.env :: X.outer) := ok.frames.trans (congrArg some hs)
  let xc : Value → Shared → Prop := fun e s₁ => wpAny (model X.prog X.w) X.A (noteFrame e X.env) (fun _ s₂ => wpAny (model X.prog X.w) X.A (setFlight e none) (fun _ s₃ => wpAny (model X.prog X.w) X.A (handleBy e X.env (h₀ :: hds)) (SP X pins D) X.xe s₃) X.xe s₂) X.xe s₁
  have htk : Takes (X.tr (X.pn ++ pins) xc) (wCl X.K Wout D l) := by
    rintro u s' ⟨a, B, sI, pins', σ', H', cls, d, rfl, J', nb, up, sky, na, os, ag, w⟩
    have J : Inv X pins σ' H' sI := J'.ofTry ok
    have sky' : Sky B (X.env :: X.outer) a (Zc cls d) X.env.locals s'.heap := hs ▸ sky
    show wpAny (model X.prog X.w) X.A (noteFrame (.ref a) X.env) _ _ _
    refine Sky.land Zc.steady hfr hf sky' fun h3 fl3 up3 => ?_
    have J3 : Inv X pins σ' H' { s' with heap := h3 } := J.landed nb fl3.1 (up.trans up3) os ag
    obtain ⟨oe3, vs3, he3, hz3, hd3⟩ := fl3.there
    have nfr : a ∉ frs (X.env :: X.outer) := fun hm => by
      obtain ⟨_, o', e', hnf⟩ := fl3.2.2.1.mem hm
      rw [he3] at e'; cases e'; exact hnf _ hd3
    have nL : a ≠ X.env.locals := fun z => nfr (List.mem_filterMap.mpr ⟨X.env, .head _, by rw [hf, z]⟩)
    have nF : a ∉ X.fs := fun hm => by
      obtain ⟨e, he, q⟩ := List.mem_filterMap.mp hm
      exact nfr (List.mem_filterMap.mpr ⟨e, .tail _ he, q⟩)
    have S3 := J3.suite he3 hd3 na nL nF
    have go : ∀ {hds' : List ExceptHandler} {l' : List Cl}, ClsOf X hds' l' → wCl X.K Wout D l' cls d σ' H' → wpAny (model X.prog X.w) X.A (handleBy (.ref a) X.env hds') (SP X pins D) X.xe { s' with heap := h3 } := by
      intro hds' l' hk
      have LT : PySem.W.Looks (model X.prog X.w) h3 (typeOf (.ref a)) cls := fun A Q E s k q => wpAny_typeOf_ref (k _ _ he3) (by rw [hz3.1]; exact q)
      have test : ∀ {x : Str} {c : Value} {np : Pos} {Q : Value → Shared → Prop} {E : Value → Shared → Prop}, Names X x c → Q c { s' with heap := h3 } → wpAny (model X.prog X.w) (X.A.mark (some (.ref a))) (eval (.Name x np) X.env) Q E { s' with heap := h3 } := by
        intro x c np Q E hc q
        obtain ⟨hg, hdbg, hm | ⟨hm, hv, hnn⟩⟩ := hc
        · exact ld_glob (X := X.suite a ((a, oe3) :: (X.pn ++ pins))) S3 hg hm q hdbg
        · exact ld_blt (X := X.suite a ((a, oe3) :: (X.pn ++ pins))) S3 hg hm hv q hnn hdbg
      induction hk with
      | nil =>
        intro w
        refine wpAny_handleBy_nil ?_
        obtain ⟨k1, k2, k3, oe, vs, T, oT, ts', he, hz, hd, h1, hr⟩ := id fl3
        unfold PySem.passOn
        refine wpAny_bind (wpAny_field he hd h1 ?_)
        rw [if_neg (show ¬ ((Value.ref T == Value.none) = true) by simp)]
        have fin : wpAny (model X.prog X.w) X.A (setFlight (.ref a) X.env.frame) (fun _ s4 => wpAny (model X.prog X.w) X.A (throw (.ref a) : Sem Flow) (SP X pins D) X.xe s4) X.xe { s' with heap := h3 } := by
          rw [hf]
          refine HandSPX.setFlight_upZ fl3 fun h4 hh4 up4 => wpAny_throw (tk _ _ ⟨a, B, sI, pins, σ', H', cls, d, rfl, J, nb, (up.trans up3).trans up4, .inr (.inr (by rw [hs]; exact hh4)), na, os, ag, w⟩)
        first | exact wpAny_bind (wpAny_pure (wpAny_bind fin)) | exact wpAny_bind fin
      | @plain x c ts b₀ suite np pos' hds2 l2 hc hsu r ih =>
        intro w
        obtain ⟨b, hb1, hyes, hno⟩ := w
        have LM := PySem.W.exm_one (M := model X.prog X.w) (J3.kIn) LT hb1
        refine wpAny_handleBy_cons (codeAny_handlers_test ?_) (fun q => nomatch q)
        refine test hc (LM.here ?_)
        cases b with
        | true =>
          refine codeAny_handlers_suite (HandSPX.lands_againZ fl3 fun h4 fl4 up4 => ?_)
          have J4 : Inv X pins σ' H' { s' with heap := h4 } := J.landed nb fl4.1 ((up.trans up3).trans up4) os ag
          obtain ⟨oe4, vs4, he4, hz4, hd4⟩ := fl4.there
          refine wpAny_mono ((hsu a oe4 cls d (X.pn ++ pins) hz4 ⟨_, hd4⟩).run [] _ _ H' _ (J4.suite he4 hd4 na nL nF) (hyes rfl a na)) (fun f s6 hsp => ?_) fun _ _ z => False.elim z
          cases f with
          | next => exact hsp.imp fun σ6 ⟨H6, S6, q6⟩ => ⟨H6, S6.unsuite ok, q6⟩
          | brk => exact hsp.imp fun σ6 ⟨H6, S6, q6⟩ => ⟨H6, S6.unsuite ok, q6⟩
          | cont => exact hsp.imp fun σ6 ⟨H6, S6, q6⟩ => ⟨H6, S6.unsuite ok, q6⟩
          | ret u => exact hsp.imp fun v6 ⟨σ6, H6, S6, r6, q6⟩ => ⟨σ6, H6, S6.unsuite ok, r6, q6⟩
        | false =>
          show wpAny _ X.A (handleBy (.ref a) X.env hds2) _ _ _
          exact ih (hno rfl)
      | @named x n c i ts b₀ suite np pos' hds2 l2 hc hi hln hsu r ih =>
        intro w
        obtain ⟨b, hb1, hyes, hno⟩ := w
        have LM := PySem.W.exm_one (M := model X.prog X.w) (J3.kIn) LT hb1
        refine wpAny_handleBy_cons (codeAny_handlers_test ?_) (fun q => nomatch q)
        refine test hc (LM.here ?_)
        cases b with
        | true =>
          refine codeAny_handlers_suite_as (HandSPX.lands_againZ fl3 fun h4 fl4 up4 => ?_)
          have J4 : Inv X pins σ' H' { s' with heap := h4 } := J.landed nb fl4.1 ((up.trans up3).trans up4) os ag
          obtain ⟨oe4, vs4, he4, hz4, hd4⟩ := fl4.there
          refine store_ok (X := X.suite a ((a, oe4) :: (X.pn ++ pins))) (v := .ref a) (J4.suite he4 hd4 na nL nF) hN hi (.inl hln) rfl (fun s5 S5 => ?_) (.inr hln)
          refine wpAny_mono ((hsu a oe4 cls d (X.pn ++ pins) hz4 ⟨_, hd4⟩).run [] s5 _ H' _ S5 (hyes rfl a na)) (fun f s6 hsp => ?_) fun _ _ z => False.elim z
          have end_ : ∀ {σ6 : L2.St} {H6 : Hp} {Q : Shared → Prop}, Inv (X.suite a ((a, oe4) :: (X.pn ++ pins))) [] σ6 H6 s6 → (∀ s7, Inv X pins (σ6.set i none) H6 s7 → Q s7) →
              wpAny (model X.prog X.w) X.A (do bindName X.env n .none; unbindBehindTheSuite X.env n pos') (fun _ s7 => Q s7) X.xe s6 := fun S6 hq => gone_ok (S6.unsuite ok) hN hi hln hq
          cases f with
          | next => obtain ⟨σ6, H6, S6, q6⟩ := hsp; exact end_ S6 fun s7 J7 => ⟨_, _, J7, q6⟩
          | brk => obtain ⟨σ6, H6, S6, q6⟩ := hsp; exact end_ S6 fun s7 J7 => ⟨_, _, J7, q6⟩
          | cont => obtain ⟨σ6, H6, S6, q6⟩ := hsp; exact end_ S6 fun s7 J7 => ⟨_, _, J7, q6⟩
          | ret u => obtain ⟨v6, σ6, H6, S6, r6, q6⟩ := hsp; exact end_ S6 fun s7 J7 => ⟨_, _, _, J7, r6, q6⟩
        | false =>
          show wpAny _ X.A (handleBy (.ref a) X.env hds2) _ _ _
          exact ih (hno rfl)
    exact go hh w
  refine wpAny_Try_except (wpAny_mono ((hb _ (X.pn ++ pins) xc htk PassesOwn.looking).run [] s σ H D (I.toTry _) h) (fun f s1 hsp => ?_) fun e s1 he => he)
  cases f with
  | next => exact wpAny_execs_nil (hsp.imp fun σ' ⟨H', J', q⟩ => ⟨H', J'.ofTry ok, q⟩)
  | brk => exact hsp.imp fun σ' ⟨H', J', q⟩ => ⟨H', J'.ofTry ok, q⟩
  | cont => exact hsp.imp fun σ' ⟨H', J', q⟩ => ⟨H', J'.ofTry ok, q⟩
  | ret u => exact hsp.imp fun v ⟨σ', H', J', r, q⟩ => ⟨σ', H', J'.ofTry ok, r, q⟩
/-- what a clause's class catches -/
structure ClsAt (S : Sta) (x : Str) (cs : List Str) : Prop where
  ex : ∃ c, (S.G.mg x = some c ∨ (S.G.mg x = none ∧ bootBuiltins x = some c ∧ x ≠ "__name__")) ∧ ∀ n C, S.xs n = some C → PySem.W.exmOne S.G.k.K (.ref C) c = some (decide (n ∈ cs))
def HsJ (S : Sta) (X : Cx) (fh : Ex → Env → Store → SRes) (hds : List ExceptHandler) : Prop := ∀ Wx, ∃ l, ClsOf X hds l ∧ ∀ D cls d σ H e W ρ st, Rl S W ρ st σ H → ExOk S.G S.xs W H e cls d → AftS S Wx D W H (fh e ρ st) → wCl X.K Wx D l cls d σ H
def Sta.with (S : Sta) (e : Ex) (cls : Value) (d : Option Addr) (i : Nat) (a : Addr) : Sta := { S with cu := some (e, cls, d, i, a), lm := none }
theorem pss_ex {ι : Type} {ss : List Stmt} {t : ι → TS} (h : ∀ i, PSs X ss (t i)) : PSs X ss (fun D σ H => ∃ i, t i D σ H) := ⟨fun pins s σ H D I ⟨i, q⟩ => (h i).run pins s σ H D I q⟩
theorem hs_nil {fh : Ex → Env → Store → SRes} (hf : ∀ e ρ st, fh e ρ st = .exc e ρ st) : HsJ S X fh [] := by
  intro Wx
  refine ⟨[], .nil, fun D cls d σ H e W ρ st r q h => ?_⟩
  rw [hf] at h
  exact h W H σ cls d Ext.refl r.so r.eo q
theorem names_of (g : GX S k X N sc) {x : Str} {c : Value} (hg : Gl X x) (hd : (x == ("__debug__" : Str)) = false) (h : S.G.mg x = some c ∨ (S.G.mg x = none ∧ bootBuiltins x = some c ∧ x ≠ "__name__")) : Names X x c := ⟨hg, hd, by rw [g.mg]; exact h⟩
theorem hs_named (g : GX S k X N sc) {x n : Str} {cs : List Str} {i : Nat} {fsu : Ex → Env → Store → SRes} {fr fh : Ex → Env → Store → SRes} {b₀ : Stmt} {suite : List Stmt} {np pos' : Pos} {hds : List ExceptHandler} (hca : ClsAt S x cs) (hg : Gl X x) (hd : (x == ("__debug__" : Str)) = false) (hi : N[i]? = some n) (hn : sc.names.lookup n = some .local)
    (hsu : ∀ (e : Ex) (a : Addr) (oe : Obj) (cls : Value) (d : Option Addr) (pn : List (Addr × Obj)), Zc cls d oe → (∃ vs, oe.data = .fields vs) → SSs (S.with e cls d i a) (X.suite a ((a, oe) :: pn)) (fsu e) (b₀ :: suite)) (hr : HsJ S X fr hds)
    (hf : ∀ e ρ st, fh e ρ st = if e.cls ∈ cs then (if i < ρ.length then (match fsu e (ρ.set i none) st with | .exc _ _ _ => .bad | r => SRes.clean i r) else .bad) else fr e ρ st) : HsJ S X fh (.ExceptHandler (some (.Name x np)) (some n) (b₀ :: suite) pos' :: hds) := by
  intro Wx
  obtain ⟨l, h1, h2⟩ := hr Wx
  obtain ⟨c, hc1, hc2⟩ := hca.ex
  refine ⟨⟨c, some i, fun a cls d D σ H => ∃ e, RS (S.with e cls d i a) Wn (fsu e) D σ H⟩ :: l, .named (names_of g hg hd hc1) (by rw [g.nm]; exact hi) (by show X.env.scope.names.lookup n = _; rw [g.sc]; exact hn) (fun a oe cls d pn hz hv => pss_ex fun e => hsu e a oe cls d pn hz hv Wn takes_n) h1, fun D cls d σ H e W ρ st r q h => ?_⟩
  rw [hf] at h
  obtain ⟨C, q1, q2, q3⟩ := id q
  refine ⟨decide (e.cls ∈ cs), by rw [q2, ← g.K]; exact hc2 _ _ q1, fun hb a ha => ?_, fun hb => ?_⟩
  · rw [if_pos (of_decide_eq_true hb)] at h
    split at h
    · rename_i hlt
      refine ⟨e, W, ρ.set i none, st, ⟨r.so, r.eo.set', (fun e' cls' dd' i' a' hcu => ?_), fun m hm => nomatch hm⟩, ?_⟩
      · cases hcu
        exact ⟨q, List.getElem?_set_self (by rw [← r.eo.1]; exact hlt)⟩
      · cases e2 : fsu e (ρ.set i none) st with
        | nxt ρ' st' => rw [e2] at h; intro W' H' σ' x so eo; exact h W' H' _ x so eo.forget
        | brk ρ' st' => rw [e2] at h; intro W' H' σ' x so eo; exact h W' H' _ x so eo.forget
        | cnt ρ' st' => rw [e2] at h; intro W' H' σ' x so eo; exact h W' H' _ x so eo.forget
        | ret d st' => rw [e2] at h; intro W' H' v x so rv; exact h W' H' v x so rv
        | exc e3 ρ' st' => rw [e2] at h; exact h.elim
        | bad => rw [e2] at h; exact h.elim
    · exact h.elim
  · rw [if_neg (of_decide_eq_false hb)] at h
    exact h2 D cls d σ H e W ρ st r q h
theorem hs_plain (g : GX S k X N sc) {x : Str} {cs : List Str} {fsu : Env → Store → SRes} {fr fh : Ex → Env → Store → SRes} {b₀ : Stmt} {suite : List Stmt} {np pos' : Pos} {hds : List ExceptHandler} (hca : ClsAt S x cs) (hg : Gl X x) (hd : (x == ("__debug__" : Str)) = false)
    (hsu : ∀ (a : Addr) (oe : Obj) (pn : List (Addr × Obj)), SSs S (X.suite a ((a, oe) :: pn)) fsu (b₀ :: suite)) (hr : HsJ S X fr hds)
    (hf : ∀ e ρ st, fh e ρ st = if e.cls ∈ cs then (match fsu ρ st with | .exc _ _ _ => .bad | r => r) else fr e ρ st) : HsJ S X fh (.ExceptHandler (some (.Name x np)) none (b₀ :: suite) pos' :: hds) := by
  intro Wx
  obtain ⟨l, h1, h2⟩ := hr Wx
  obtain ⟨c, hc1, hc2⟩ := hca.ex
  refine ⟨⟨c, none, fun a cls d => RS S Wn fsu⟩ :: l, .plain (names_of g hg hd hc1) (fun a oe cls d pn hz hv => hsu a oe pn Wn takes_n) h1, fun D cls d σ H e W ρ st r q h => ?_⟩
  rw [hf] at h
  obtain ⟨C, q1, q2, q3⟩ := id q
  refine ⟨decide (e.cls ∈ cs), by rw [q2, ← g.K]; exact hc2 _ _ q1, fun hb a ha => ?_, fun hb => ?_⟩
  · rw [if_pos (of_decide_eq_true hb)] at h
    refine ⟨W, ρ, st, r, ?_⟩
    cases e2 : fsu ρ st with
    | nxt ρ' st' => rw [e2] at h; exact h
    | brk ρ' st' => rw [e2] at h; exact h
    | cnt ρ' st' => rw [e2] at h; exact h
    | ret d st' => rw [e2] at h; exact h
    | exc e3 ρ' st' => rw [e2] at h; exact h.elim
    | bad => rw [e2] at h; exact h.elim
  · rw [if_neg (of_decide_eq_false hb)] at h
    exact h2 D cls d σ H e W ρ st r q h
theorem GS.tr (g : GS S k X N sc) {pn : List (Addr × Obj)} {xe : Value → Shared → Prop} (hp : PassesOwn (model X.prog X.w) X.A X.env xe) : GS S k (X.tr pn xe) N sc where
  prog := g.prog
  w := g.w
  K := g.K
  mg := g.mg
  base := g.base
  nm := g.nm
  nd := g.nd
  sc := g.sc
  un := g.un
  gd := g.gd
  cls := g.cls
  cm := g.cm
  ps := hp
  cel := g.cel
  stk := g.stk
  fr := g.fr
  kn := g.kn
theorem ss_try (gs : GS S k X N sc) {fb f : Env → Store → SRes} {fh : Ex → Env → Store → SRes} {body : List Stmt} {h₀ : ExceptHandler} {hds : List ExceptHandler} (hb : ∀ (pn : List (Addr × Obj)) (xe : Value → Shared → Prop), PassesOwn (model X.prog X.w) X.A X.env xe → SSs S (X.tr pn xe) fb body) (hh : HsJ S X fh (h₀ :: hds))
    (hf : ∀ ρ st, f ρ st = match fb ρ st with | .exc e ρ1 st1 => fh e ρ1 st1 | r => r) (hcu : S.plain) : SSt S X f (.Try body (h₀ :: hds) [] [] pos) := by
  intro Wx tk
  obtain ⟨l, h1, h2⟩ := hh Wx
  refine ps_imp (ps_tryC gs.stk gs.fr (by rw [gs.nm]; exact gs.nd) tk (fun W pn xe tk' hp => hb pn xe hp W tk') h1) fun D σ H ⟨W, ρ, st, r, h⟩ => ?_
  rw [hf] at h
  refine ⟨W, ρ, st, r, ?_⟩
  cases e : fb ρ st with
  | nxt ρ1 st1 => rw [e] at h; exact h
  | brk ρ1 st1 => rw [e] at h; exact h
  | cnt ρ1 st1 => rw [e] at h; exact h
  | ret d st1 => rw [e] at h; exact h
  | exc e1 ρ1 st1 =>
    rw [e] at h
    intro W1 H1 σ1 cls dd x1 so1 eo1 q
    exact h2 D cls dd σ1 H1 e1 W1 ρ1 st1 (Rl.mk0 hcu so1 eo1) q (AftS.later h x1)
  | bad => rw [e] at h; exact h.elim
/-! ### the caught exception's fields -/
structure XfAt (S : Sta) (fields : List Str) : Prop where
  ok : ∀ c C, S.xs c = some C → XfC S.G.k.K C ∧ ∀ f ∈ fields, PySem.W.findIn S.G.k.K (.ref C) f = some none
theorem fld_look {K : Kl} {W : List Addr} {H : Hp} {f : Str} {d : MM.D} : ∀ {fs : List (Str × MM.D)} {gs : List (Str × V)}, FldR K W H fs gs → lookF f fs = some d → ∃ v, gs.lookup f = some v ∧ Rep K W H d v
  | _, _, .nil, h => by simp [lookF] at h
  | (a, b) :: _, (c, e) :: _, .cons q r, h => by
    obtain ⟨q1, q2⟩ := q
    simp only at q1 q2
    subst q1
    simp only [lookF] at h
    by_cases hf : f = a
    · subst hf
      rw [if_pos rfl] at h
      cases h
      exact ⟨e, by simp [List.lookup], q2⟩
    · rw [if_neg hf] at h
      obtain ⟨v, h1, h2⟩ := fld_look r h
      have : (f == a) = false := by simpa using hf
      exact ⟨v, by simp [List.lookup, this, h1], h2⟩
theorem se_exF {e : Ex} {cls : Value} {d : Option Addr} {i : Nat} {a : Addr} {oe : Obj} {pn : List (Addr × Obj)} {fields : List Str} {n ff : Str} (hK : S.G.k.K = X.K) (hx : XfAt S fields) (hff : ff ∈ fields) (hz : Zc cls d oe) (hv : ∃ vs, oe.data = .fields vs) (hi : X.N[i]? = some n) (hvis : Vis X.env.scope n) (hd : (n == ("__debug__" : Str)) = false) (hcd : (n == ("__classdict__" : Str)) = false)
    {f : Env → Store → Res MM.D} (hf : ∀ ρ st, f ρ st = ofD (lookF ff e.fs) st) : SE (S.with e cls d i a) (X.suite a ((a, oe) :: pn)) f (.Attribute (.Name n p) ff pos) := by
  intro Wx tk
  cases hC : S.xs e.cls with
  | none =>
    refine ⟨fun pins s σ H Q I ⟨W, ρ, st, r, h⟩ => ?_⟩
    obtain ⟨⟨C, q1, _⟩, _⟩ := r.co _ _ _ _ _ rfl
    rw [show (S.with e cls d i a).xs e.cls = S.xs e.cls from rfl, hC] at q1
    cases q1
  | some C =>
    obtain ⟨T, hno⟩ := hx.ok _ _ hC
    rw [hK] at T hno
    refine pe_imp (pe_xf T (hno ff hff) hz hv (pe_var (i := i) hi hvis hd hcd)) fun σ H Q ⟨W, ρ, st, r, h⟩ => ?_
    obtain ⟨⟨C', q1, q2, q3⟩, q4⟩ := r.co _ _ _ _ _ rfl
    have q1 : S.xs e.cls = some C' := q1
    rw [hC] at q1
    cases q1
    rw [hf] at h
    cases el : lookF ff e.fs with
    | none => rw [el] at h; exact h.elim
    | some d1 =>
      rw [el] at h
      rcases q3 with ⟨z, _⟩ | ⟨dd, gs, z1, z2, z3⟩
      · rw [z] at el; simp [lookF] at el
      · obtain ⟨v, l1, l2⟩ := fld_look z3 el
        exact ⟨.ref a, q4, rfl, q2, dd, gs, v, z1, z2, l1, h W H Ext.refl r.so v l2⟩
end
end MM
end

section
set_option Elab.async false
set_option linter.all false
set_option maxRecDepth 100000
set_option maxHeartbeats 4000000
/-! MMExIs: isinstance of a caught exception of an own class, with fields or without. -/
namespace MM
open PySem L2 PyProof.Rows
/-- what the class must say -/
structure IsC (K : PySem.W.Frag) (C : Addr) : Prop where
  ha : PySem.W.findIn K (.ref C) "__class__" = some (some (.builtin "object.__class__"))
  hn : PySem.W.specialIn K (.builtin "object.__class__") "__get__" = some (some (.builtin "getset_descriptor.__get__"))
  ht : PySem.W.takesIn K (.builtin "object.__class__") = some true
  hm : PySem.W.mroIn K C (.type "object") = some true
def rIsF (K : PySem.W.Frag) (D a : Addr) (d : Option Addr) : List V → Hp → VK → Prop := fun xs H Q => ∃ (c : V) (cv : Value) (b : Bool), xs = [.ref a, c] ∧ (∀ u, RelV c u → u = cv) ∧ PySem.W.kitOne K (.ref D) cv = some b ∧ (d = none ∨ ∃ dd fs, d = some dd ∧ H dd = some (.xd fs)) ∧ Q (.bl b) H
theorem call_isF {X : Cx} {a D : Addr} {d : Option Addr} {cls : Value} {oe : Obj} {pn : List (Addr × Obj)} (T : XfC X.K D) (C : IsC X.K D) (ec : cls = .ref D) (hz : Zc cls d oe) (hf : ∃ vs, oe.data = .fields vs) : CallR (X.suite a ((a, oe) :: pn)) (.builtin "isinstance") (rIsF X.K D a d) := by
  intro pins s σ H xs us Q I r h
  obtain ⟨c, cv, b, rfl, hcv, e, hd, q⟩ := h
  subst ec
  cases r with
  | cons rx rr =>
    cases rr with
    | cons rt rr =>
      cases rr
      cases rx
      have ec := hcv _ rt
      subst ec
      obtain ⟨hget, _⟩ := I.pin (a, oe) (List.mem_append.mpr (.inl List.mem_cons_self))
      obtain ⟨vs, hv⟩ := hf
      have hcl : (PySem.W.clsIn X.K D).isSome = true := by
        obtain ⟨cd, hc, _⟩ := PySem.W.any_some T.hdC
        rw [hc]; rfl
      have J : ∃ od, PySem.W.InstAt s.heap a oe D od := by
        rcases hd with rfl | ⟨dd, fs, rfl, hx⟩
        · refine ⟨none, ?_⟩
          obtain ⟨oc, od, oda, osl⟩ := oe
          obtain ⟨h1, h2⟩ := hz
          dsimp only at h1 h2 hv
          subst h1 h2 hv
          exact ⟨hget, rfl, rfl, trivial⟩
        · have hx : ObjOk X.prog X.w H s.heap dd (.xd fs) := I.hok dd _ hx
          obtain ⟨mA, hns, hr⟩ := hx
          obtain ⟨od, ho, hl⟩ := lookIn_ns hns
          exact ⟨some od, hget, hz.1, by unfold PySem.W.notCls; rw [hv] <;> rfl, by rw [hz.2]; exact ho⟩
      obtain ⟨od, J⟩ := J
      exact PySem.W.kia_one (PySem.W.kitx_exc hcl T.ga T.gg T.exC C.ha C.hn C.ht C.hm) I.kIn J e (fun z => nomatch z) fun tk => ⟨.bl b, H, I.kept (t' := tk) fun _ _ z => z, rfl, q⟩
/-- a class that isinstance asks a caught exception for -/
structure IsAt (S : Sta) (x : Str) (cs : List Str) : Prop where
  ex : ∃ Ch, S.G.mg x = some (.ref Ch) ∧ ∀ n C, S.xs n = some C → PySem.W.kitOne S.G.k.K (.ref C) (.ref Ch) = some (decide (n ∈ cs)) ∧ IsC S.G.k.K C ∧ XfC S.G.k.K C
section
variable {S : Sta} {k : Nat} {X : Cx} {N : List Str} {sc : Scope} {pos p : Pos}
theorem se_exIs {e : Ex} {cls : Value} {d : Option Addr} {i : Nat} {a : Addr} {oe : Obj} {pn : List (Addr × Obj)} {n x : Str} {cs : List Str} {p1 p2 : Pos} (hK : S.G.k.K = X.K) (hm : S.G.mg = X.mg) (hq : IsAt S x cs) (hz : Zc cls d oe) (hv : ∃ vs, oe.data = .fields vs) (hi : X.N[i]? = some n) (hvis : Vis X.env.scope n) (hd : (n == ("__debug__" : Str)) = false) (hcd : (n == ("__classdict__" : Str)) = false)
    (hg : Gl X "isinstance") (hi0 : X.mg "isinstance" = none) (hgx : Gl X x) (hdx : (x == ("__debug__" : Str)) = false)
    {f : Env → Store → Res MM.D} (hf : ∀ ρ st, f ρ st = .ok (.bl (decide (e.cls ∈ cs))) st) : SE (S.with e cls d i a) (X.suite a ((a, oe) :: pn)) f (.Call (.Name "isinstance" p) [.Name n p1, .Name x p2] [] pos) := by
  intro Wx tk
  obtain ⟨Ch, hCh, hall⟩ := hq.ex
  cases hC : S.xs e.cls with
  | none =>
    refine ⟨fun pins s σ H Q I ⟨W, ρ, st, r, h⟩ => ?_⟩
    obtain ⟨⟨C, q1, _⟩, _⟩ := r.co _ _ _ _ _ rfl
    rw [show (S.with e cls d i a).xs e.cls = S.xs e.cls from rfl, hC] at q1
    cases q1
  | some C =>
    obtain ⟨k1, k2, k3⟩ := hall _ _ hC
    rw [hK] at k1 k2 k3
    refine ⟨fun pins s σ H Q I ⟨W, ρ, st, r, h⟩ => ?_⟩
    obtain ⟨⟨C', q1, q2, q3⟩, q4⟩ := r.co _ _ _ _ _ rfl
    have q1 : S.xs e.cls = some C' := q1
    rw [hC] at q1
    cases q1
    rw [hf] at h
    have pa : PA (X.suite a ((a, oe) :: pn)) [.Name n p1, .Name x p2] (tCons (tVar i) (tCons (tC (.ref Ch)) tNil)) := pa_cons (pe_var (i := i) hi hvis hd hcd) (pa_cons (pe_glob (X := X.suite a ((a, oe) :: pn)) hgx (by show X.mg x = _; rw [← hm]; exact hCh) rfl hdx) pa_nil rfl) rfl
    refine (pe_callB (call_isF k3 k2 q2 hz hv) hg hi0 (by decide +kernel) pa (by decide) (by decide) rfl rfl).run pins s σ H Q I ?_
    refine ⟨.ref a, q4, .ref Ch, .ref Ch, decide (e.cls ∈ cs), rfl, fun u hu => hu, k1, ?_, h W H Ext.refl r.so _ (.bl _)⟩
    rcases q3 with ⟨z1, z2⟩ | ⟨dd, gs, z1, z2, z3⟩
    · exact .inl z2
    · exact .inr ⟨dd, gs, z1, z2⟩
end
end MM
end

section
set_option Elab.async false
set_option linter.all false
set_option maxRecDepth 100000
set_option maxHeartbeats 4000000
/-! MMLock: at a def's end the lists that it laid become such that nobody changes. -/
namespace MM
open PySem L2 PyProof.Rows
/-- the lists at as, one by one, become known to the object -/
inductive Lk : List Addr → Hp → Hp → Prop where
  | nil {H : Hp} : Lk [] H H
  | cons {a : Addr} {as : List Addr} {H H2 : Hp} {vs : List V} {o : Obj} : H a = some (.lst vs) → Lk as (upd H a (.frz o (.lst vs))) H2 → Lk (a :: as) H H2
theorem lk_inv {X : Cx} {pins : List (Addr × Obj)} {σ : L2.St} {s : Shared} : ∀ {as : List Addr} {H : Hp}, (∀ a ∈ as, ∃ vs, H a = some (.lst vs)) → Inv X pins σ H s → ∃ bs H2, (∀ a, a ∈ bs ↔ a ∈ as) ∧ Lk bs H H2 ∧ Inv X pins σ H2 s
  | [], H, _, I => ⟨[], H, fun _ => Iff.rfl, .nil, I⟩
  | a :: as, H, h, I => by
    by_cases n1 : a ∈ as
    · obtain ⟨bs, H2, e, k, I2⟩ := lk_inv (fun b hb => h b (List.mem_cons_of_mem _ hb)) I
      refine ⟨bs, H2, fun b => ⟨fun z => List.mem_cons_of_mem _ ((e b).mp z), fun z => ?_⟩, k, I2⟩
      rcases List.mem_cons.mp z with z | z
      · subst z; exact (e _).mpr n1
      · exact (e b).mpr z
    · obtain ⟨vs, hv⟩ := h a List.mem_cons_self
      obtain ⟨od, I1⟩ := I.lock hv trivial
      obtain ⟨bs, H2, e, k, I2⟩ := lk_inv (as := as) (fun b hb => by
        obtain ⟨ws, hw⟩ := h b (List.mem_cons_of_mem _ hb)
        exact ⟨ws, by rw [upd_ne fun z => n1 (by rw [← z]; exact hb)]; exact hw⟩) I1
      exact ⟨a :: bs, H2, fun b => by rw [List.mem_cons, List.mem_cons, e b], .cons hv k, I2⟩
theorem lk_out {b : Addr} : ∀ {as : List Addr} {H H2 : Hp}, Lk as H H2 → b ∉ as → H2 b = H b
  | _, _, _, .nil, _ => rfl
  | _, _, _, .cons hv k, n => by
    rw [lk_out k fun z => n (List.mem_cons_of_mem _ z), upd_ne fun z => n (by rw [z]; exact List.mem_cons_self)]
theorem lk_frz {b : Addr} {o : Obj} {u : HO} : ∀ {as : List Addr} {H H2 : Hp}, Lk as H H2 → H b = some (.frz o u) → H2 b = some (.frz o u)
  | _, _, _, .nil, h => h
  | _, _, _, .cons hv k, h => lk_frz k (by rw [upd_ne fun z => by rw [z, hv] at h; cases h]; exact h)
theorem lk_in {b : Addr} : ∀ {as : List Addr} {H H2 : Hp}, Lk as H H2 → b ∈ as → ∀ vs, H b = some (.lst vs) → ∃ o, H2 b = some (.frz o (.lst vs))
  | _, _, _, .nil, h, _, _ => by cases h
  | _, _, _, .cons (a := a) (vs := ws) (o := o) hv k, h, vs, e => by
    by_cases hb : b = a
    · subst hb
      rw [hv] at e
      cases e
      exact ⟨o, lk_frz k upd_same⟩
    · rcases List.mem_cons.mp h with z | z
      · exact absurd z hb
      · exact lk_in k z vs (by rw [upd_ne hb]; exact e)
theorem lk_lst : ∀ {as : List Addr} {H H2 : Hp}, Lk as H H2 → ∀ a ∈ as, ∃ vs, H a = some (.lst vs)
  | _, _, _, .nil, _, h => by cases h
  | _, _, _, .cons (a := a) hv k, b, h => by
    by_cases hb : b = a
    · subst hb; exact ⟨_, hv⟩
    · rcases List.mem_cons.mp h with z | z
      · exact absurd z hb
      · obtain ⟨vs, e⟩ := lk_lst k b z
        rw [upd_ne hb] at e
        exact ⟨vs, e⟩
/-- what was no list off the store stands as it was -/
theorem lk_mor {K : Kl} {W : List Addr} {as : List Addr} {H H2 : Hp} (k : Lk as H H2) : Mor K W H W H2 := by
  have ne : ∀ {a : Addr} {o : HO}, H a = some o → (∀ vs, o ≠ .lst vs) → H2 a = some o := fun {a o} h n => by
    rw [lk_out k fun z => by
      obtain ⟨vs, e⟩ := lk_lst k a z
      rw [h] at e; cases e
      exact n _ rfl]
    exact h
  refine ⟨fun h => h, fun {a vs} h => ?_, fun h => lk_frz k h, fun h n => ⟨ne h (fun _ z => nomatch z), n⟩⟩
  rcases h with (h | ⟨u, h⟩) | h
  · exact .inl (.inl (ne h (fun _ z => nomatch z)))
  · exact .inl (.inr ⟨u, lk_frz k h⟩)
  · exact .inr h
theorem lk_st {G : Gam} {W : List Addr} {st : Store} : ∀ {as : List Addr} {H H2 : Hp}, Lk as H H2 → (∀ a ∈ as, a ∉ W) → StOk G W st H → StOk G W st H2
  | _, _, _, .nil, _, so => so
  | _, _, _, .cons hv k, n, so => lk_st k (fun a h => n a (List.mem_cons_of_mem _ h)) (so.off ⟨n _ List.mem_cons_self, fun u hu => by rw [hv] at hu; cases hu; rfl⟩)
theorem lk_ext {W1 W : List Addr} {H1 : Hp} : ∀ {as : List Addr} {H H2 : Hp}, Lk as H H2 → (∀ a ∈ as, ∀ u, H1 a = some u → ∃ ps, u = .tbl ps) → Ext W1 H1 W H → Ext W1 H1 W H2
  | _, _, _, .nil, _, x => x
  | _, _, _, .cons hv k, n, x => lk_ext k (fun a h => n a (List.mem_cons_of_mem _ h)) (x.off (n _ List.mem_cons_self))
/-- a body whose answer may be given when some lists have become known -/
def LockRt (Q : VK) : VK := fun v H => ∃ as : List Addr, (∀ a ∈ as, ∃ vs, H a = some (.lst vs)) ∧ ∀ bs H2, (∀ a, a ∈ bs ↔ a ∈ as) → Lk bs H H2 → Q v H2
theorem pss_lock {X : Cx} {ss : List Stmt} {t : TS} (h : PSs X ss t) : PSs X ss (fun D σ H => t { D with rt := LockRt D.rt } σ H) := by
  refine ⟨fun pins s σ H D I q => thn (h.run pins s σ H _ I q) fun f s1 q => ?_⟩
  cases f with
  | next => exact q
  | brk => exact q
  | cont => exact q
  | ret u =>
    obtain ⟨v, σ', H', I1, r, as, ha, q⟩ := q
    obtain ⟨bs, H2, e, k, I2⟩ := lk_inv ha I1
    exact ⟨v, σ', H2, I2, r, q bs H2 e k⟩
/-! ### the answer's lists become known -/
section
variable {G : Gam} {xs : Excs}
theorem fld_lims {W W' : List Addr} {H : Hp} {l : Nat} (g : ∀ d v, D.lim d ≤ l → Rep G.k W H d v → Rep G.k W' H d v) : ∀ {fs : List (Str × D)} {gs : List (Str × V)}, D.lims (fs.map (·.2)) ≤ l → FldR G.k W H fs gs → FldR G.k W' H fs gs
  | _, _, _, .nil => .nil
  | _ :: _, _ :: _, hl, .cons q r => by
    rw [List.map_cons] at hl
    simp only [D.lims] at hl
    exact .cons ⟨q.1, g _ _ (Nat.le_trans (Nat.le_max_left _ _) hl) q.2⟩ (fld_lims g (Nat.le_trans (Nat.le_max_right _ _) hl) r)
theorem exOk_gc {W W' : List Addr} {H : Hp} {e : Ex} {cls : Value} {dd : Option Addr} (g : ∀ d v, D.lim d ≤ exLim e → Rep G.k W H d v → Rep G.k W' H d v) (h : ExOk G xs W H e cls dd) : ExOk G xs W' H e cls dd := by
  obtain ⟨C, h1, h2, h3⟩ := h
  refine ⟨C, h1, h2, ?_⟩
  rcases h3 with h3 | ⟨d, gs, h3, h4, h5⟩
  · exact .inl h3
  · exact .inr ⟨d, gs, h3, h4, fld_lims g (Nat.le_refl _) h5⟩
end
section
variable {G : Gam} {W W1 : List Addr} {H H1 : Hp} {st st1 : Store}
def lstB : Cell → Bool | .lst _ => true | _ => false
/-- the lists laid since st -/
def newL (W1 : List Addr) (st st1 : Store) : List Addr := ((List.range st1.length).filter fun n => decide (st.length ≤ n) && ((st1[n]?).map lstB == some true)).filterMap fun n => W1[n]?
theorem newL_mem (so1 : StOk G W1 st1 H1) {a : Addr} (h : a ∈ newL W1 st st1) : ∃ n xs vs, W1[n]? = some a ∧ st.length ≤ n ∧ st1[n]? = some (.lst xs) ∧ H1 a = some (.lst vs) := by
  unfold newL at h
  obtain ⟨n, hn, e⟩ := List.mem_filterMap.mp h
  obtain ⟨h1, h2⟩ := List.mem_filter.mp hn
  simp only [Bool.and_eq_true, decide_eq_true_eq, beq_iff_eq] at h2
  obtain ⟨h2, h3⟩ := h2
  cases ec : st1[n]? with
  | none => rw [ec] at h3; cases h3
  | some c =>
    rw [ec] at h3
    cases c with
    | lst xs =>
      obtain ⟨vs, hv, _⟩ := cell_lst so1 ec e
      exact ⟨n, xs, vs, e, h2, ec, hv⟩
    | _ => cases h3
theorem newL_of {n : Nat} {xs : List D} {a : Addr} (hn : st.length ≤ n) (e : st1[n]? = some (.lst xs)) (ha : W1[n]? = some a) : a ∈ newL W1 st st1 := by
  unfold newL
  refine List.mem_filterMap.mpr ⟨n, List.mem_filter.mpr ⟨List.mem_range.mpr (List.getElem?_eq_some_iff.mp e).1, ?_⟩, ha⟩
  simp [hn, e, lstB]
theorem lims_mem {xs : List D} {n : Nat} (h : D.lims xs ≤ n) : ∀ d ∈ xs, d.lim ≤ n := by
  induction xs with
  | nil => intro d hd; cases hd
  | cons x r ih =>
    simp only [D.lims] at h
    intro d hd
    rcases List.mem_cons.mp hd with z | z
    · subst z; exact Nat.le_trans (Nat.le_max_left _ _) h
    · exact ih (Nat.le_trans (Nat.le_max_right _ _) h) d z
/-- what frzD gives is there when the lists are known -/
theorem frz_rep {as : List Addr} {H2 : Hp} (so1 : StOk G W1 st1 H1) (hW : W1.take st.length = W) (k : Lk as H1 H2) (ha : ∀ a, a ∈ as ↔ a ∈ newL W1 st st1) : ∀ (n : Nat) (d : D) (v : V), Rep G.k W1 H1 d v → (frzD st.length st1 n d).lim ≤ st.length → Rep G.k W H2 (frzD st.length st1 n d) v := by
  intro n
  induction n with
  | zero =>
    intro d v r hl
    have := r.cut (show d.lim ≤ st.length from hl)
    rw [hW] at this
    exact this.mor (lk_mor k)
  | succ n ih =>
    have all : ∀ (xs : List D) (vs : List V), Reps G.k W1 H1 xs vs → D.lims (xs.map (frzD st.length st1 n)) ≤ st.length → Reps G.k W H2 (xs.map (frzD st.length st1 n)) vs := by
      intro xs
      induction xs with
      | nil => intro vs r _; cases r; exact .nil
      | cons x r ihx =>
        intro vs rr hl
        cases rr with
        | cons r1 r2 =>
          simp only [List.map_cons, D.lims] at hl
          exact .cons (ih _ _ r1 (Nat.le_trans (Nat.le_max_left _ _) hl)) (ihx _ r2 (Nat.le_trans (Nat.le_max_right _ _) hl))
    intro d v r hl
    cases r with
    | non => exact .non
    | bl b => exact .bl b
    | int i => exact .int i
    | str x => exact .str x
    | tup h r =>
      simp only [frzD, D.lim] at hl ⊢
      exact .tup ((lk_mor (K := G.k) (W := W) k).sqT h) (all _ _ r hl)
    | fl h r =>
      simp only [frzD, D.lim] at hl ⊢
      exact .fl (lk_frz k h) (all _ _ r hl)
    | obj h no c r =>
      simp only [frzD, D.lim] at hl ⊢
      exact .obj ((lk_mor (K := G.k) (W := W1) k).ins h no).1 (fun z => no (by rw [← hW] at z; exact List.mem_of_mem_take z)) c (all _ _ r hl)
    | @loc m a hm =>
      simp only [frzD] at hl ⊢
      by_cases hb : st.length ≤ m
      · rw [if_pos hb] at hl ⊢
        cases ec : st1[m]? with
        | none => rw [ec] at hl; simp only [D.lim] at hl; omega
        | some c =>
          rw [ec] at hl
          cases c with
          | lst xs =>
            simp only [D.lim] at hl ⊢
            obtain ⟨vs, hv, hr⟩ := cell_lst so1 ec hm
            obtain ⟨o, ho⟩ := lk_in k ((ha a).mpr (newL_of hb ec hm)) vs hv
            exact .fl ho (all _ _ hr hl)
          | rol xs => simp only [D.lim] at hl; omega
          | dic xs => simp only [D.lim] at hl; omega
          | ins c xs => simp only [D.lim] at hl; omega
      · rw [if_neg hb]
        exact .loc (by rw [← hW, List.getElem?_take_of_lt (by omega)]; exact hm)
/-- the end of a def: from what retF gives -/
theorem ret_ok {d : D} {v : V} {Q : VK} (so : StOk G W st H) (x : Ext W H W1 H1) (so1 : StOk G W1 st1 H1) (r : Rep G.k W1 H1 d v) (h : Out G W H (retF st st1 d) Q) : LockRt Q v H1 := by
  unfold retF at h
  split at h
  · rename_i hc
    obtain ⟨c1, c2, c3⟩ := hc
    have eW : W1.take st.length = W := by
      obtain ⟨t, rfl⟩ := x.pre
      rw [← so.len]; exact List.take_left
    have hg : gc st st1 (D.lim (frzD st.length st1 9 d)) = st1.take st.length := by unfold gc; rw [if_pos ⟨c1, c2, c3⟩]
    obtain ⟨W2, x2, so2, _, _, g6⟩ := gc_ok (l := D.lim (frzD st.length st1 9 d)) so x so1
    rw [hg] at so2
    have e2 : W2 = W := by
      have l2 : W2.length = st.length := by rw [so2.len, List.length_take]; omega
      obtain ⟨t, rfl⟩ := g6
      rw [← eW, List.take_append_of_le_length (by omega), ← l2, List.take_length]
    subst e2
    refine ⟨newL W1 st st1, fun a ha => ?_, fun bs H2 e k => ?_⟩
    · obtain ⟨_, _, vs, _, _, _, hv⟩ := newL_mem so1 ha
      exact ⟨vs, hv⟩
    · have out : ∀ a ∈ bs, a ∉ W2 := fun a ha hm => by
        obtain ⟨n, xs, vs, h1, h2, h3, h4⟩ := newL_mem so1 ((e a).mp ha)
        obtain ⟨m, hm⟩ := List.mem_iff_getElem?.mp hm
        have hlt := (List.getElem?_eq_some_iff.mp hm).1
        have := cell_new so1 h3 h1 h4 (x.get hm)
        rw [so.len] at hlt
        omega
      refine h W2 H2 v (lk_ext k (fun a ha u hu => ?_) x2) (lk_st k out so2) (frz_rep so1 eW k e 9 d v r c1)
      obtain ⟨n, xs, vs, h1, h2, h3, h4⟩ := newL_mem so1 ((e a).mp ha)
      rcases x.fresh a (List.mem_of_getElem? h1) with z | z
      · exact absurd z (out a ha)
      · exact z u hu
  · obtain ⟨W2, x2, so2, g1, _⟩ := gc_ok (l := d.lim) so x so1
    refine ⟨[], (fun a ha => nomatch ha), fun bs H2 e k => ?_⟩
    cases bs with
    | nil => cases k; exact h W2 H1 v x2 so2 (g1 _ _ (Nat.le_refl _) r)
    | cons a r => exact nomatch (e a).mp List.mem_cons_self
end
end MM
end

section
set_option Elab.async false
set_option linter.all false
set_option maxRecDepth 100000
set_option maxHeartbeats 4000000
/-! MMLam: a lambda that is handed to a def, and called there. -/
namespace MM
open PySem L2 PyProof.Rows
/-- the function object of a lambda -/
def LamO (q : Str) (ps : Arguments) (b : Expr) (sc : Scope) (cl : List (Str × Addr)) (pm : Value) (c : Addr) (ct : Value) (f : Addr) : HO :=
  .ext fun h => h.get? f = some (PySem.W.kla_obj "<lambda>" q ps b sc (cloFrom cl sc.names []) pm c ct)
theorem lamO_ok {P : Program} {w : World} {H : Hp} {h : Heap} {q : Str} {ps : Arguments} {b : Expr} {sc : Scope} {cl : List (Str × Addr)} {pm : Value} {c : Addr} {ct : Value} {f : Addr}
    (e : h.get? f = some (PySem.W.kla_obj "<lambda>" q ps b sc (cloFrom cl sc.names []) pm c ct)) : ObjOk P w H h f (LamO q ps b sc cl pm c ct f) := ⟨e, ⟨_, e⟩, fun _ _ e k => k _ e⟩
section
variable {X : Cx} {pins : List (Addr × Obj)} {σ : L2.St} {H : Hp} {s : Shared}
/-- what the making of a lambda gives -/
structure LamNew (X : Cx) (T : List (Addr × Str)) (H H1 : Hp) (ps : Arguments) (b : Expr) (sc : Scope) (f c : Addr) (pm ct : Value) : Prop where
  ext : LamX.ExtN H H1
  tab : LamX.Tabs T H1
  new : H f = none
  obj : H1 f = some (LamO (X.env.qual ++ "<lambda>") ps b sc X.env.cells pm c ct f)
  cod : H1 c = some (LamX.CodeO c (X.env.qual ++ "<lambda>"))
theorem lam_new {T : List (Addr × Str)} {c P : Addr} {ps : Arguments} {b0 : Expr} {sc : Scope} {pos : Pos} {E : Value → Shared → Prop} {Q : Value → Shared → Prop} (I : Inv X pins σ H s) (TB : LamX.TabB X.base X.mg c P) (hcode : X.env.code = .ref c)
    (hm : (P, X.env.qual ++ "<lambda>") ∈ T) (hu : ∀ p ∈ T, p.1 = P → p.2 = X.env.qual ++ "<lambda>") (hT : LamX.Tabs T H) (hdef : defaultsOf ps X.env = ([], [])) (L : LamX.LamS X.env.scope sc)
    (h : ∀ (f c' : Addr) (pm ct : Value) (H1 : Hp) (s' : Shared), Inv X pins σ H1 s' → LamNew X T H H1 ps b0 sc f c' pm ct → Q (.ref f) s') :
    wpAny (model X.prog X.w) X.A (eval (.Lambda ps b0 sc pos) X.env) Q E s := by
  have hcl := closure_ok (env := X.env) (L.has I.ok)
  obtain ⟨tab, hP, htri, hall⟩ := hT _ hm
  have gl := I.mod.glob.keeps I.bk
  have cd := TB.code.keeps I.bk
  have bu : s.heap.BuiltinsAt X.mg P := TB.bm.keeps I.bk
  have atP : s.heap.get? P = some { cls := .none, data := .fields tab } := I.hok P _ hP
  apply PySem.W.kla_eval hdef
  cases hc : codeAmong pos tab.toList with
  | none =>
    refine PySem.W.kla_makeFunction (c := c) (ps := tab) hcl I.ok.glob gl hcode cd atP htri hc TB.gP bu ?_
    rintro c' ct h' tk kept low high ⟨c2, oc, vs, t, e2, rec, dat, nam⟩ row
    cases e2
    let more : Array Value := #[rawInt pos.line, rawInt pos.col, .ref c']
    have I0 := LamX.inv_table (t' := tk) (more := more) (h' := h') I hP kept row low ⟨oc, vs, t, rec, dat, nam⟩
    have oe : (h'.push (PySem.W.kla_obj "<lambda>" (X.env.qual ++ "<lambda>") ps b0 sc (cloFrom X.env.cells sc.names []) ((X.mg "__name__").getD .none) c' ct)).get? h'.objs.size = some (PySem.W.kla_obj "<lambda>" (X.env.qual ++ "<lambda>") ps b0 sc (cloFrom X.env.cells sc.names []) ((X.mg "__name__").getD .none) c' ct) := Heap.get?_push_size _ rfl
    have I1 := I0.laid (t' := tk) (fun b u e => Heap.get?_push_of_some _ e) (Nat.le_refl _) (lamO_ok oe)
    have nC : H c' = none := I.hok.fresh low
    have nF : H h'.objs.size = none := I.hok.fresh (Nat.le_trans low (Nat.le_of_lt high))
    have fc : h'.objs.size ≠ c' := Nat.ne_of_gt high
    have up1 : ∀ b o, H b = some o → (∀ q, o ≠ .tbl q) → upd (upd H P (.tbl (tab ++ more))) c' (LamX.CodeO c' (X.env.qual ++ "<lambda>")) b = some o := fun b o e n => by
      rw [upd_ne (ne_of_none e nC), upd_ne fun z => n tab (by rw [z, hP] at e; exact (Option.some.inj e).symm)]
      exact e
    have up2 : ∀ b o, H b = some o → ∀ {u v : HO}, upd (upd H P v) c' u b = upd H P v b := fun b o e {u v} => upd_ne (ne_of_none e nC)
    have old : ∀ {c0 : Addr} {q : Str}, H c0 = some (LamX.CodeO c0 q) → upd (upd (upd H P (.tbl (tab ++ more))) c' (LamX.CodeO c' (X.env.qual ++ "<lambda>"))) h'.objs.size (LamO (X.env.qual ++ "<lambda>") ps b0 sc X.env.cells ((X.mg "__name__").getD .none) c' ct h'.objs.size) c0 = some (LamX.CodeO c0 q) := fun {c0 q} e => by
      rw [upd_ne (ne_of_none e nF)]
      exact up1 _ _ e LamX.codeO_ne
    refine h _ c' _ ct _ _ I1 ⟨fun b o e n => ?_, fun p hp => ?_, nF, upd_same, ?_⟩
    · rw [upd_ne (ne_of_none e nF)]
      exact up1 b o e n
    · by_cases hb : p.1 = P
      · have hq := hu p hp hb
        refine ⟨tab ++ more, by rw [hb, upd_ne (ne_of_none hP nF), upd_ne (ne_of_none hP nC), upd_same], by rw [Array.toList_append]; exact PySem.TriplesOk_snoc _ _ _ _ htri, fun p' cv hcv => ?_⟩
        rw [Array.toList_append] at hcv
        rcases LamX.among_app _ htri hcv with z | z
        · obtain ⟨c0, e1, e2⟩ := hall p' cv z
          exact ⟨c0, e1, by rw [hq]; exact old e2⟩
        · refine ⟨c', z, ?_⟩
          rw [upd_ne fc.symm, upd_same, hq]
      · obtain ⟨t2, a1, a2, a3⟩ := hT p hp
        refine ⟨t2, by rw [upd_ne (ne_of_none a1 nF), upd_ne (ne_of_none a1 nC), upd_ne hb]; exact a1, a2, fun p' cv hcv => ?_⟩
        obtain ⟨c0, e1, e2⟩ := a3 p' cv hcv
        exact ⟨c0, e1, old e2⟩
    · rw [upd_ne fc.symm, upd_same]
  | some cv =>
    obtain ⟨c', rfl, hco⟩ := hall pos cv hc
    refine PySem.W.kla_makeFunctionHit (c := c) (ps := tab) hcl I.ok.glob gl hcode cd atP htri hc bu ?_
    intro ct h' tk kept low
    have I0 : Inv X pins σ H { s with heap := h', toks := tk } := I.kept kept
    have oe : (h'.push (PySem.W.kla_obj "<lambda>" (X.env.qual ++ "<lambda>") ps b0 sc (cloFrom X.env.cells sc.names []) ((X.mg "__name__").getD .none) c' ct)).get? h'.objs.size = some (PySem.W.kla_obj "<lambda>" (X.env.qual ++ "<lambda>") ps b0 sc (cloFrom X.env.cells sc.names []) ((X.mg "__name__").getD .none) c' ct) := Heap.get?_push_size _ rfl
    have I1 := I0.laid (t' := tk) (fun b u e => Heap.get?_push_of_some _ e) (Nat.le_refl _) (lamO_ok oe)
    have nF : H h'.objs.size = none := I.hok.fresh low
    have up : ∀ b o, H b = some o → upd H h'.objs.size (LamO (X.env.qual ++ "<lambda>") ps b0 sc X.env.cells ((X.mg "__name__").getD .none) c' ct h'.objs.size) b = some o := fun b o e => by
      rw [upd_ne (ne_of_none e nF)]; exact e
    exact h _ c' _ ct _ _ I1 ⟨LamX.ExtN.of up, hT.ext up, nF, upd_same, up _ _ hco⟩
end
end MM
end

section
set_option Elab.async false
set_option linter.all false
set_option maxRecDepth 100000
set_option maxHeartbeats 4000000
/-! MMLam2: the lambda called in the def that has got it. -/
namespace MM
open PySem L2 PyProof.Rows
noncomputable def gcr (st : Store) (r : Res D) : Res D := match r with | .ok d st1 => .ok d (gc st st1 d.lim) | .exc e st1 => .exc e (gc st st1 (exLim e)) | .bad => .bad
/-- the context of the def that has got the lambda -/
abbrev gotCx (X : Cx) (Ng : List Str) (qg : Str) (sg : Scope) (g : Addr) (cdg : Value) (s : Shared) (H : Hp) (E : XK) : Cx := cxOf (L2.CX X.prog X.w) X.prog X.w X.K X.mg X.base Ng qg sg g cdg X.A X.stack s H E
/-- the context of the lambda's body -/
abbrev lamX (X : Cx) (A : Around) (outer : List PySem.Env) (s : Shared) (H : Hp) (E : XK) (sc : Scope) (f c : Addr) : Cx := LamX.lamCx X A outer s H E sc f c
section
variable {X : Cx} {pins : List (Addr × Obj)} {σ : L2.St} {H : Hp} {s : Shared}
theorem act_ok {Sl S1 : Sta} {fl : Env → Store → Res D} {ρc : Env} {Ng : List Str} {qg : Str} {sg : Scope} {g f c' : Addr} {cdg pm ct : Value} {Eg : XK} {ps : Arguments} {body : Expr} {sc : Scope} {k i : Nat} {a : Str} {p1 p2 : Pos}
    (I : Inv X pins σ H s) (L : LamX.LamS X.env.scope sc) (hg : X.A.guards = some [])
    (hbind : bindArgs (PySem.W.kla_fn "<lambda>" (X.env.qual ++ "<lambda>") ps body sc (cloFrom X.env.cells sc.names []) pm (.ref c') ct) ⟨[], []⟩ = pure [])
    (hr : Room (k + 1) (X.A.deeper (envOfC qg sg s.heap.objs.size g cdg)))
    (hbody : ∀ (A : Around) (outer : List PySem.Env) (s : Shared) (H : Hp) (E : XK), Room k (A.deeper (LamX.lamEnv X sc s.heap.objs.size f c')) → A.guards = some [] → SE Sl (lamX X A outer s H E sc f c') fl body)
    (hG : S1.G = Sl.G) (hxs : S1.xs = Sl.xs) (hpl : Sl.plain) (hlm : S1.lm = some ⟨i, f, c', X.env.qual ++ "<lambda>", LamO (X.env.qual ++ "<lambda>") ps body sc X.env.cells pm c' ct f, ρc, σ⟩)
    (hN : Ng[i]? = some a) (hv : Vis sg a) (hd : (a == ("__debug__" : Str)) = false) (hcd : (a == ("__classdict__" : Str)) = false) (pn : List (Addr × Obj)) (xe : Value → Shared → Prop) :
    SE S1 ((gotCx X Ng qg sg g cdg s H Eg).tr pn xe) (fun _ st => gcr st (fl ρc st)) (.Call (.Name a p1) [] [] p2) := by
  intro Wx tk
  refine ⟨fun pinsZ sZ σZ HZ Q IZ ⟨W, ρ, st, r, h⟩ => ?_⟩
  obtain ⟨l1, l2, ⟨l3, _⟩, l4⟩ := r.lo _ hlm
  refine wpAny_Call_Name_kw (thn ((pe_var (pos := p1) (i := i) hN hv hd hcd).run pinsZ sZ σZ HZ (fun v H1 => v = .ref f ∧ H1 = HZ) IZ ⟨.ref f, l1, rfl, rfl⟩) fun u s1 ⟨v, H1, I1, r1, q1⟩ => ?_)
  obtain ⟨rfl, rfl⟩ := q1
  obtain rfl : u = Value.ref f := r1
  have of1 : s1.heap.get? f = some (PySem.W.kla_obj "<lambda>" (X.env.qual ++ "<lambda>") ps body sc (cloFrom X.env.cells sc.names []) pm c' ct) := (I1.hok f _ l3).1
  obtain ⟨⟨oc, vs, t, hoc, hdc, hvc⟩, _, _⟩ := I1.hok c' _ l2
  have un : Un (frs X.stack) [] H H1 s.heap s1.heap := I1.base
  refine PySem.W.callWith_F0 ⟨_, _, _, _, of1⟩ ?_
  -- what is wanted of the lambda's body
  have hl : ∀ E : XK, E = WE Wx σZ → RT Sl (fun cls d _ H' => E cls d H') fl σ H1 Q := fun E hE => by
    refine ⟨W, ρc, st, Rl.mk0 hpl (hG ▸ r.so) (hG ▸ l4), ?_⟩
    cases e : fl ρc st with
    | ok d st1 =>
      simp only [e, gcr] at h
      intro W1 H2 x1 so1 v rv
      obtain ⟨W2, x2, so2, g1, _⟩ := gc_ok (l := d.lim) (hG ▸ r.so) x1 so1
      exact h W2 H2 x2 (hG ▸ so2) v (hG ▸ g1 d v (Nat.le_refl _) rv)
    | exc ex st1 =>
      simp only [e, gcr] at h
      intro W1 H2 cls dd x1 so1 q
      obtain ⟨W2, x2, so2, g1, _⟩ := gc_ok (l := exLim ex) (hG ▸ r.so) x1 so1
      have q2 := exOk_gc g1 q
      subst hE
      refine h W2 H2 cls dd x2 (hG ▸ so2) ?_
      rw [hG, hxs]
      exact q2
    | bad => simp only [e, gcr] at h; exact h.elim
  have rc : codeAny (model X.prog X.w) (X.A.deeper (envOfC qg sg s.heap.objs.size g cdg)) (.call (.ref f) ⟨[], []⟩) (CR (L2.CX X.prog X.w) (envOfC qg sg s.heap.objs.size g cdg :: X.stack) X.prog X.w H1 s1 Q (WE Wx σZ)) s1 := by
    refine PySem.W.kla_callFunE hr.depth of1 rfl L.co L.gen rfl ⟨c', oc, vs, t, rfl, hoc, hdc, hvc⟩ ?_
    rw [hbind]
    refine wpAny_pure (wpAny_newFunctionEnv (fun y hy => (L.own y hy).2) (fun y hy => nomatch hy) (fun h₁ hns hsb => ⟨I1.nolimit.fresh _ hsb, ?_⟩) L.kind)
    have kp : ∀ b o, s1.heap.get? b = some o → h₁.get? b = some o := fun b o e => hsb.extBut b o (Nat.ne_of_lt (Heap.lt_size e)) (Heap.get?_push_of_some _ e)
    have J := LamX.lam_start2 (A := X.A.deeper (envOfC qg sg s.heap.objs.size g cdg)) (outer := envOfC qg sg s.heap.objs.size g cdg :: X.stack) (E := WE Wx σZ) (f := f) (c' := c') (tk := s1.toks + ([] : List (Str × Value)).length) I L I1.env0 hr.hd un hns kp
    have tl : Takes (lamX X (X.A.deeper (envOfC qg sg s.heap.objs.size g cdg)) (envOfC qg sg s.heap.objs.size g cdg :: X.stack) s1 H1 (WE Wx σZ) sc f c') (fun cls d _ H' => (WE Wx σZ) cls d H') := takes_of rfl rfl rfl rfl
    have run := (hbody _ _ s1 H1 (WE Wx σZ) (hr.deeper _) hg _ tl).run [] _ _ H1 Q J (hl _ rfl)
    refine PySem.W.kla_codeExpr (wpAny_mono run (fun v s' hq => ?_) fun e s' hq => hq)
    obtain ⟨w', H', J', rv, q⟩ := hq
    exact ⟨w', H', J'.os, J'.bare, J'.base, J'.hok, rv, q⟩
  have hx : PassesAt (L2.CX X.prog X.w) ((gotCx X Ng qg sg g cdg s H Eg).tr pn xe) σZ (WE Wx σZ) := passAt tk σZ
  refine wpAny_call (codeAny_mono rc fun res s' hq => ?_)
  match res, hq with
  | .error e, hq => exact hx pinsZ H1 s1 e s' I1 hq
  | .ok (.ret u), hq => exact I1.after hq
end
end MM
end

section
set_option Elab.async false
set_option linter.all false
set_option maxRecDepth 100000
set_option maxHeartbeats 4000000
/-! MMChk: the form is the text's: a check by computation, and what it gives. -/
namespace MM
open PySem L2 PyProof.Rows
mutual
def sameD : D → D → Bool
  | .non, .non => true
  | .bl a, .bl b => a == b
  | .int a, .int b => a == b
  | .str a, .str b => decide (a = b)
  | .tup a, .tup b => sameDs a b
  | .loc a, .loc b => a == b
  | .fl a, .fl b => sameDs a b
  | _, _ => false
def sameDs : List D → List D → Bool
  | [], [] => true
  | a :: r, b :: q => sameD a b && sameDs r q
  | _, _ => false
end
mutual
theorem sameD_ok : ∀ {a b : D}, sameD a b = true → a = b
  | .non, b, h => by cases b <;> simp [sameD] at h ⊢
  | .bl a, b, h => by cases b <;> simp [sameD] at h ⊢; exact h
  | .int a, b, h => by cases b <;> simp [sameD] at h ⊢; exact h
  | .str a, b, h => by cases b <;> simp [sameD] at h ⊢; exact h
  | .tup a, b, h => by cases b <;> simp [sameD] at h ⊢; exact sameDs_ok h
  | .loc a, b, h => by cases b <;> simp [sameD] at h ⊢; exact h
  | .fl a, b, h => by cases b <;> simp [sameD] at h ⊢; exact sameDs_ok h
  | .obj _ _ _, b, h => by cases b <;> simp [sameD] at h
theorem sameDs_ok : ∀ {a b : List D}, sameDs a b = true → a = b
  | [], b, h => by cases b <;> simp [sameDs] at h ⊢
  | a :: r, b, h => by
    cases b with
    | nil => simp [sameDs] at h
    | cons b q =>
      simp only [sameDs, Bool.and_eq_true] at h
      rw [sameD_ok h.1, sameDs_ok h.2]
end
/-- what is known where a text is checked -/
structure Ck where
  tb : Tb
  rs : List (Str × List Str)
  hs : List (Str × List Str)
  fs : List Str
  xf : List Str
  is : List (Str × List Str)
  N : List Str
  sc : Scope
  cal : Bool
  ex : Option (Nat × Str)
  hos : List Str
  lam : Bool
def conB : D → Expr → Bool
  | .non, .Constant .none _ _ => true
  | .bl b, .Constant (.bool c) _ _ => b == c
  | .int i, .Constant (.int j) _ _ => i == j
  | .str x, .Constant (.str y) _ _ => decide (x = y)
  | _, _ => false
def keyB : Sum Int Str → Expr → Bool
  | .inl i, .Constant (.int j) _ _ => i == j
  | .inr x, .Constant (.str y) _ _ => decide (x = y)
  | _, _ => false
def varB (c : Ck) (i : Nat) (x : Str) : Bool := decide (c.N[i]? = some x) && visB c.sc x && !(x == ("__debug__" : Str)) && !(x == ("__classdict__" : Str))
def globB (c : Ck) (x : Str) : Bool := gloB c.sc x && !(x == ("__debug__" : Str))
def ownP (N : List Str) (own : List Nat) : List (Str × Nat) := own.map fun i => ((N[i]?).getD "", i)
def tysB (c : Ck) : List Ty → List Expr → Bool
  | [], [] => true
  | t :: ts, e :: es => (match e with | .Name x _ => decide (x = tyNm t) | _ => false) && decide (t ∈ c.tb.ts) && globB c (tyNm t) && tysB c ts es
  | _, _ => false
def gsB (d : D) (x : Str) : List (Str × D) → Bool
  | [] => false
  | p :: r => (decide (p.1 = x) && sameD p.2 d) || gsB d x r
/-- no parameters -/
def noArgs : Arguments → Bool | ⟨[], [], none, [], [], none, []⟩ => true | _ => false
def noA : Arguments := ⟨[], [], none, [], [], none, []⟩
theorem noArgs_eq {a : Arguments} (h : noArgs a = true) : a = noA := by
  unfold noArgs at h
  split at h
  · rfl
  · cases h
def isTup0 : Expr → Bool | .Tuple _ _ _ => true | _ => false
mutual
def chkE (c : Ck) : E → Expr → Bool
  | .v i, x => match x with | .Name n _ => varB c i n | _ => false
  | .con d, x => conB d x
  | .glob y d, x => match x with | .Name n _ => decide (n = y) && globB c y && gsB d y c.tb.gs | _ => false
  | .bin op a b, x => match x with | .BinOp a' op' b' _ => decide (op' = op) && chkE c a a' && chkE c b b' | _ => false
  | .neg a, x => match x with | .UnaryOp .USub a' _ => chkE c a a' | _ => false
  | .inv a, x => match x with | .UnaryOp .Invert a' _ => chkE c a a' | _ => false
  | .not a, x => match x with | .UnaryOp .Not a' _ => chkE c a a' | _ => false
  | .cmp op a b, x => match x with | .Compare a' [op'] [b'] _ => decide (op' = op) && chkE c a a' && chkE c b b' && !(behindInMarks op b') | _ => false
  | .chain o1 o2 a b e, x => match x with | .Compare a' [o1', o2'] [b', e'] _ => decide (o1' = o1) && decide (o2' = o2) && chkE c a a' && chkE c b b' && chkE c e e' && !(lastMarks [o1, o2] [b', e']) | _ => false
  | .and a b, x => match x with
    | .BoolOp .And [a', b'] _ => chkE c a a' && chkE c b b'
    | .BoolOp .And (a' :: b' :: e' :: r) p => chkE c a a' && chkE c b (.BoolOp .And (b' :: e' :: r) p)
    | _ => false
  | .or a b, x => match x with
    | .BoolOp .Or [a', b'] _ => chkE c a a' && chkE c b b'
    | .BoolOp .Or (a' :: b' :: e' :: r) p => chkE c a a' && chkE c b (.BoolOp .Or (b' :: e' :: r) p)
    | _ => false
  | .ite t a b, x => match x with | .IfExp t' a' b' _ => chkE c t t' && chkE c a a' && chkE c b b' | _ => false
  | .tup es, x => match x with | .Tuple es' _ _ => chkEs c es es' | _ => false
  | .lst es, x => match x with | .List es' _ => chkEs c es es' | _ => false
  | .dic ps, x => match x with | .Dict ks vs _ => chkPs c ps ks vs && decide (ks.length ≤ 15) | _ => false
  | .idx a i, x => match x with | .Subscript a' i' _ => chkE c a a' && chkE c i i' && noSlice i' | _ => false
  | .sl a lo hi, x => match x with
    | .Subscript a' (.Slice lo' hi' none _) _ => chkE c a a' &&
      (match lo' with | none => isOmit lo | some y => !(isOmit lo) && chkE c lo y) && (match hi' with | none => isOmit hi | some y => !(isOmit hi) && chkE c hi y)
    | _ => false
  | .omit, _ => false
  | .attr _ _, _ => false
  | .call f as, x => match x with | .Call (.Name n _) as' [] _ => decide (n = f) && decide (f ∈ c.fs) && globB c f && c.cal && chkEs c as as' | _ => false
  | .blt b as, x => match x with | .Call (.Name n _) (a' :: as') [] _ => decide (n = bfName b) && decide (b ∈ c.tb.bs) && globB c (bfName b) && (hotB b || c.cal) && chkEs c as (a' :: as') | _ => false
  | .isin a ts, x => match x with
    | .Call (.Name n _) [a', .Name t p] [] _ => decide (n = "isinstance") && globB c "isinstance" && chkE c a a' && noStar a' && tysB c ts [.Name t p]
    | .Call (.Name n _) [a', .Tuple es _ _] [] _ => decide (n = "isinstance") && globB c "isinstance" && chkE c a a' && noStar a' && tysB c ts es && decide (ts.length ≤ 100) && decide (ts.length ≠ 0)
    | _ => false
  | .meth m o as, x => match x with | .Call (.Attribute o' n ap) as' [] p => decide (n = mtN m) && chkE c o o' && noCall0 o' && (ap.endLine == p.line) && decide (as'.length < 30) && chkEs c as as' | _ => false
  | .comp own t it cond elt, x => match x with
    | .ListComp elt' [⟨tg, iter, ifs, 0⟩] scope _ => c.cal && decide (c.ex = none) && chkIt c it tg iter && blkC c.N c.sc scope (ownP c.N own) && tgB c.N (ownC scope) (relS scope c.sc) t tg && noSetD iter && decide (∀ i ∈ tgIs t, i ∈ own) && chkE { c with sc := relS scope c.sc, hos := [], lam := false } elt elt' &&
      (match ifs with | [] => (match cond with | .con (.bl true) => true | _ => false) | [y] => chkE { c with sc := relS scope c.sc, hos := [], lam := false } cond y | _ => false)
    | _ => false
  | .fstr ps, x => match x with | .JoinedStr (a :: b :: r) _ => chkFs c ps (a :: b :: r) | _ => false
  | .exF f, x => match x with | .Attribute (.Name n _) f' _ => decide (f' = f) && decide (f ∈ c.xf) && (match c.ex with | some q => decide (q.2 = n) | none => false) | _ => false
  | .exIs cs, x => match x with
    | .Call (.Name m _) [.Name n _, .Name y _] [] _ => decide (m = "isinstance") && globB c "isinstance" && (match c.ex with | some q => decide (q.2 = n) | none => false) && globB c y && decide ((y, cs) ∈ c.is)
    | _ => false
  | .frz a, x => chkE c a x && plainT x
  | .callH g b as, x => match x with
    | .Call (.Name n _) [.Lambda ps body lsc _] [] _ => (match as with | .nil => true | _ => false) && decide (n = g) && decide (g ∈ c.hos) && globB c g && c.cal && c.lam && decide (c.ex = none) && LamX.lamSB c.sc lsc && noArgs ps && chkE { c with sc := lsc, hos := [], lam := false, ex := none } b body
    | _ => false
  | .callv, _ => false
  | .comp2 _ _ _ _ _ _ _ _, _ => false
  | .new _ _, _ => false
  | .prop _ _, _ => false
  | .mcall _ _ _, _ => false
def chkEs (c : Ck) : Es → List Expr → Bool
  | .nil, xs => match xs with | [] => true | _ => false
  | .cons e es, xs => match xs with | x :: r => chkE c e x && noStar x && chkEs c es r | _ => false
def chkPs (c : Ck) : Ps → List (Option Expr) → List Expr → Bool
  | .nil, ks, xs => match ks, xs with | [], [] => true | _, _ => false
  | .cons k e ps, ks, xs => match ks, xs with | some y :: ks, x :: xs => keyB k y && chkE c e x && chkPs c ps ks xs | _, _ => false
  | .consE k e ps, ks, xs => match ks, xs with | some y :: ks, x :: xs => chkE c k y && chkE c e x && chkPs c ps ks xs | _, _ => false
def chkFs (c : Ck) : Es → List Expr → Bool
  | .nil, xs => match xs with | [] => true | _ => false
  | .cons e es, xs => match xs with
    | .Constant (.str y) _ _ :: r => (match e with | .con (.str z) => decide (y = z) | _ => false) && chkFs c es r
    | .FormattedValue x j none _ :: r => decide (j = -1) && chkE c e x && chkFs c es r
    | _ => false
def chkIt (c : Ck) : It → Expr → Expr → Bool
  | .e a, _, x => chkE c a x
  | .rng1 a, _, x => match x with | .Call (.Name n _) [a'] [] _ => decide (n = "range") && globB c "range" && chkE c a a' && noStar a' | _ => false
  | .rng2 a b, _, x => match x with | .Call (.Name n _) [a', b'] [] _ => decide (n = "range") && globB c "range" && chkE c a a' && noStar a' && chkE c b b' && noStar b' | _ => false
  | .zip a b, t, x => isTup0 t && (match x with | .Call (.Name n _) [a', b'] [] _ => decide (n = "zip") && globB c "zip" && chkE c a a' && noStar a' && chkE c b b' && noStar b' | _ => false)
  | .enum a, t, x => isTup0 t && (match x with | .Call (.Name n _) [a'] [] _ => decide (n = "enumerate") && globB c "enumerate" && chkE c a a' && noStar a' | _ => false)
end
def isBo : Expr → Bool | .BoolOp .. => true | _ => false
/-- what the check gives -/
structure Good (S : Sta) (X : Cx) (f : Env → Store → Res D) (x : Expr) : Prop where
  se : SE S X f x
  st : ST S X f x
  sw : isBo x = true → SW S X f x
  sas : noComp x = false → SAs S X f x
/-- where a text is checked -/
structure Ctx0 (C : Orc) (S : Sta) (k : Nat) (X : Cx) (c : Ck) : Prop where
  g : GX S k X c.N c.sc
  T : TbOk S.G c.tb
  ca : c.cal = true → X.calm = true
  cu : c.ex = none → S.plain
  fs : ∀ x ∈ c.fs, DefAt S k x (fun ρ => C ((ρ, none) :: S.fs) x)
  exh : ∀ i n, c.ex = some (i, n) → ∀ ff ∈ c.xf, ∀ (p pos : Pos), SE S X (fun _ st => match S.cur with | some e => ofD (lookF ff e.fs) st | none => .bad) (.Attribute (.Name n p) ff pos)
  exi : ∀ i n, c.ex = some (i, n) → ∀ q ∈ c.is, Gl X "isinstance" → Gl X q.1 → (q.1 == ("__debug__" : Str)) = false → ∀ (p p1 p2 pos : Pos), SE S X (fun _ st => match S.cur with | some e => .ok (.bl (decide (e.cls ∈ q.2))) st | none => .bad) (.Call (.Name "isinstance" p) [.Name n p1, .Name q.1 p2] [] pos)
def Sta.bare (S : Sta) : Sta := ⟨S.G, S.xs, S.fs, none, none⟩
def Ck.lamCk (c : Ck) (lsc : Scope) : Ck := { c with sc := lsc, hos := [], lam := false, ex := none }
/-- a def that calls the lambda that it gets -/
def HoAt (C : Orc) (S : Sta) (k : Nat) (c : Ck) (gn : Str) : Prop := ∃ (C' : Orc) (kl : Nat) (ga : Addr), S.G.mg gn = some (.ref ga) ∧ PySem.W.keepIn S.G.k.K (.ref ga) = true ∧
  ∀ (X : Cx) (sc : Scope), GX S k X c.N sc → X.calm = true → ∀ (b : E) (body : Expr) (lsc : Scope) (f c' : Addr) (pm ct : Value), LamX.LamS X.env.scope lsc →
    (∀ Xl : Cx, Ctx0 C' S.bare kl Xl (c.lamCk lsc) → SE S.bare Xl (evE C' S.fs none b) body) →
    ∀ (pins : List (Addr × Obj)) (s : Shared) (σ : L2.St) (H : Hp) (Q : VK) (W : List Addr) (ρ : Env) (st : Store), Inv X pins σ H s → H f = some (LamO (X.env.qual ++ "<lambda>") noA body lsc X.env.cells pm c' ct f) → H c' = some (LamX.CodeO c' (X.env.qual ++ "<lambda>")) →
    StOk S.G W st H → EnvOk S.G.k W H ρ σ → Out S.G W H (noExc (C ((ρ, some b) :: S.fs) gn [] st)) Q →
    codeAny (model X.prog X.w) X.A (.call (.ref ga) ⟨[.ref f], []⟩) (CR (L2.CX X.prog X.w) X.stack X.prog X.w H s Q (fun _ _ _ => False)) s
/-- .. with the defs that get lambdas, and where lambdas are made -/
structure Ctx (C : Orc) (S : Sta) (k : Nat) (X : Cx) (c : Ck) : Prop extends Ctx0 C S k X c where
  ho : ∀ gn ∈ c.hos, HoAt C S k c gn
  lamc : c.lam = true → ∃ cd P, X.env.code = .ref cd ∧ LamX.TabB X.base X.mg cd P ∧ (P, X.env.qual ++ "<lambda>") ∈ S.G.T ∧ ∀ p ∈ S.G.T, p.1 = P → p.2 = X.env.qual ++ "<lambda>"
section
variable {S : Sta} {k : Nat} {X : Cx} {N : List Str} {sc : Scope} {pos p lpos : Pos}
theorem lam_st {G : Gam} {W : List Addr} {st : Store} {H H1 : Hp} {ps : Arguments} {b : Expr} {lsc : Scope} {f c : Addr} {pm ct : Value} (so : StOk G W st H) (nw : LamNew X G.T H H1 ps b lsc f c pm ct) : Ext W H W H1 ∧ StOk G W st H1 := by
  have x1 : Ext W H W H1 := ⟨List.prefix_refl _, fun _ h => .inl h, fun a o e _ hn => nw.ext a o e hn, fun a o e hf => nw.ext a o e fun ps z => by rw [z] at hf; cases hf⟩
  refine ⟨x1, nw.tab, so.len, so.inj, fun n c a h1 h2 => (so.cell n c a h1 h2).imp (fun hw => ?_) (fun o u h => nw.ext _ _ h fun _ z => nomatch z) (fun _ _ r => r.ext x1) fun _ _ r => r.ext x1⟩
  obtain ⟨o, ho, hm⟩ := (so.cell n c a h1 h2).some hw
  rw [ho]
  exact nw.ext _ _ ho (mutO_tbl hm)
theorem noExc_exc {α : Type} (r : Res α) (e : Ex) (st : Store) : noExc r ≠ .exc e st := by
  cases r <;> exact fun z => nomatch z
theorem se_callH {C : Orc} {c : Ck} {gn : Str} {b : E} {body : Expr} {lsc : Scope} (ct : Ctx C S k X c) (hc : X.calm = true) (hgn : gn ∈ c.hos) (hl : c.lam = true) (hg : Gl X gn) (hdb : (gn == ("__debug__" : Str)) = false) (L : LamX.LamS X.env.scope lsc)
    (hb : ∀ (C' : Orc) (kl : Nat) (Xl : Cx), Ctx0 C' S.bare kl Xl (c.lamCk lsc) → SE S.bare Xl (evE C' S.fs none b) body) :
    SE S X (fun ρ st => noExc (C ((ρ, some b) :: S.fs) gn [] st)) (.Call (.Name gn p) [.Lambda noA body lsc lpos] [] pos) := by
  intro Wx tk
  refine ⟨fun pins s σ H Q I ⟨W, ρ, st, r, h⟩ => ?_⟩
  have h : Aft S Wx σ W H (noExc (C ((ρ, some b) :: S.fs) gn [] st)) (fun W' H' d _ => ∀ v, Rep S.G.k W' H' d v → Q v H') := h
  obtain ⟨cd, P, hcode, TB, hm, hu⟩ := ct.lamc hl
  obtain ⟨C', kl, ga, hga, hk, run⟩ := ct.ho gn hgn
  refine wpAny_Call_Name_kw (ld_glob I hg (by rw [ct.g.mg]; exact hga) ?_ hdb)
  refine PySem.W.callWith_K (h₀ := X.base) I.ok.mod.kin (by rw [← ct.g.K]; exact hk) ?_ (by rfl) (by rfl)
  show wpAny _ _ (spliced ((false, eval (.Lambda noA body lsc lpos) X.env) :: backTo pos (starEach [] X.env))) _ _ s
  refine Calls.spliced_cons (lam_new I TB hcode hm hu r.so.tab rfl L fun f c' pm ctv H1 s1 I1 nw => Calls.spliced_nil ⟨I1.kIn, ?_⟩)
  obtain ⟨x1, so1⟩ := lam_st r.so nw
  have rc := run X c.sc ct.g hc b body lsc f c' pm ctv L (hb C' kl) pins s1 σ H1 Q W ρ st I1 nw.obj nw.cod so1 (r.eo.ext x1) (by
    cases e : noExc (C ((ρ, some b) :: S.fs) gn [] st) with
    | ok d st' => rw [e] at h; intro W' H' v x so rv; exact h W' H' (x1.trans x) so v rv
    | exc ex st' => exact (noExc_exc _ _ _ e).elim
    | bad => rw [e] at h; exact h.elim)
  have hx : PassesAt (L2.CX X.prog X.w) X σ (WE Wn σ) := passAt takes_n σ
  refine wpAny_call (codeAny_mono rc fun res s2 hq => ?_)
  match res, hq with
  | .error e, hq => exact hx pins H1 s1 e s2 I1 hq
  | .ok (.ret u), hq => exact I1.after hq
end
section
variable {C : Orc} {S : Sta} {k : Nat} {X : Cx} {c : Ck}
theorem Good.of (g : GX S k X c.N c.sc) {f : Env → Store → Res D} {x : Expr} (h : SE S X f x) (h1 : plainT x = true) (h2 : noComp x = true) : Good S X f x :=
  ⟨h, st_tru g h (tru_plain h1), (fun z => by cases x <;> first | (cases z; done) | (cases h1; done)), (fun z => by rw [h2] at z; cases z)⟩
theorem con_se {d : D} {x : Expr} (h : conB d x = true) : (∃ v, PE X x (tC v) ∧ ∀ (K : Kl) W H, Rep K W H d v) ∧ plainT x = true ∧ noComp x = true := by
  unfold conB at h
  split at h
  · exact ⟨⟨_, pe_non, fun _ _ _ => .non⟩, rfl, rfl⟩
  · rw [beq_iff_eq] at h; subst h; exact ⟨⟨_, pe_bl, fun _ _ _ => .bl _⟩, rfl, rfl⟩
  · rw [beq_iff_eq] at h; subst h; exact ⟨⟨_, pe_int, fun _ _ _ => .int _⟩, rfl, rfl⟩
  · have h := of_decide_eq_true h; subst h; exact ⟨⟨_, pe_str, fun _ _ _ => .str _⟩, rfl, rfl⟩
  · cases h
theorem glob_gl (g : GX S k X c.N c.sc) {x : Str} (h : globB c x = true) : Gl X x ∧ (x == ("__debug__" : Str)) = false := by
  simp only [globB, Bool.and_eq_true, Bool.not_eq_true'] at h
  exact ⟨by show X.env.scope.names.lookup x = _; rw [g.sc]; exact gloB_ok h.1, h.2⟩
theorem gsB_ok {d : D} {x : Str} : ∀ {l : List (Str × D)}, gsB d x l = true → (x, d) ∈ l
  | [], h => by cases h
  | p :: r, h => by
    simp only [gsB, Bool.or_eq_true, Bool.and_eq_true, decide_eq_true_eq] at h
    rcases h with ⟨h1, h2⟩ | h
    · obtain ⟨a, b⟩ := p
      simp only at h1 h2
      subst h1
      rw [sameD_ok h2]
      exact List.mem_cons_self
    · exact List.mem_cons_of_mem _ (gsB_ok h)
theorem tysB_ok (g : GX S k X c.N c.sc) : ∀ {ts : List Ty} {es : List Expr}, tysB c ts es = true → (∀ t ∈ ts, t ∈ c.tb.ts ∧ Gl X (tyNm t) ∧ (tyNm t == ("__debug__" : Str)) = false) ∧ Paired (fun (t : Ty) (e : Expr) => ∃ p, e = .Name (tyNm t) p) ts es
  | [], [], _ => ⟨fun _ h => (nomatch h), .nil⟩
  | t :: ts, e :: es, h => by
    simp only [tysB, Bool.and_eq_true, decide_eq_true_eq] at h
    obtain ⟨⟨⟨h1, h2⟩, h3⟩, h4⟩ := h
    obtain ⟨q1, q2⟩ := tysB_ok g h4
    refine ⟨fun t' ht' => ?_, .cons ?_ q2⟩
    · rcases List.mem_cons.mp ht' with rfl | ht'
      · exact ⟨h2, glob_gl g h3⟩
      · exact q1 t' ht'
    · split at h1
      · rename_i x p
        exact ⟨p, by rw [of_decide_eq_true h1]⟩
      · cases h1
  | [], _ :: _, h => by cases h
  | _ :: _, [], h => by cases h
theorem key_pe {kk : Sum Int Str} {x : Expr} (h : keyB kk x = true) : PE X x (tC (kV kk)) := by
  unfold keyB at h
  split at h
  · rw [beq_iff_eq] at h; subst h; exact pe_int
  · have h := of_decide_eq_true h; subst h; exact pe_str
  · cases h
theorem Ctx.blk (ct : Ctx C S k X c) (hex : c.ex = none) (s : Shared) (H : Hp) (scope : Scope) (Ca : Addr) (cl : List (Str × Addr)) (fp : List Addr) : Ctx C S k (X.blk s H scope (compEnvC scope cl Ca X.env) fp) { c with sc := relS scope c.sc, hos := [], lam := false } where
  g := ct.g.blk s H scope Ca cl fp
  ho := fun _ z => nomatch z
  lamc := fun z => nomatch z
  T := ct.T
  ca := ct.ca
  cu := ct.cu
  fs := ct.fs
  exh := fun i n h => by rw [show ({ c with sc := relS scope c.sc, hos := [], lam := false } : Ck).ex = c.ex from rfl, hex] at h; cases h
  exi := fun i n h => by rw [show ({ c with sc := relS scope c.sc, hos := [], lam := false } : Ck).ex = c.ex from rfl, hex] at h; cases h
end
mutual
theorem chkE_ok {C : Orc} {S : Sta} {k : Nat} : ∀ (e : E) {X : Cx} {c : Ck} {x : Expr}, Ctx C S k X c → chkE c e x = true → Good S X (evE C S.fs S.cur e) x
  | .v i, X, c, x, ct, h => by
    simp only [chkE] at h
    split at h
    · simp only [varB, Bool.and_eq_true, decide_eq_true_eq, Bool.not_eq_true'] at h
      obtain ⟨⟨⟨h1, h2⟩, h3⟩, h4⟩ := h
      exact .of ct.g (se_v (by rw [ct.g.nm]; exact h1) (by rw [ct.g.sc]; exact visB_ok h2) h3 h4 fun _ _ => rfl) rfl rfl
    · cases h
  | .con d, X, c, x, ct, h => by
    simp only [chkE] at h
    obtain ⟨⟨v, h1, h2⟩, h3, h4⟩ := con_se (X := X) h
    exact .of ct.g (se_con h1 (fun W H => h2 _ W H) fun _ _ => rfl) h3 h4
  | .glob y d, X, c, x, ct, h => by
    simp only [chkE] at h
    split at h
    · simp only [Bool.and_eq_true, decide_eq_true_eq] at h
      obtain ⟨⟨h1, h2⟩, h3⟩ := h
      subst h1
      obtain ⟨v, u, q1, q2, q3⟩ := ct.T.gs _ (gsB_ok h3)
      obtain ⟨g1, g2⟩ := glob_gl ct.g h2
      exact .of ct.g (se_con (pe_glob g1 (by rw [ct.g.mg]; exact q1) q2 g2) q3 fun _ _ => rfl) rfl rfl
    · cases h
  | .bin op a b, X, c, x, ct, h => by
    simp only [chkE] at h
    split at h
    · simp only [Bool.and_eq_true, decide_eq_true_eq] at h
      obtain ⟨⟨h1, h2⟩, h3⟩ := h
      subst h1
      exact .of ct.g (se_bin ct.g (chkE_ok a ct h2).se (chkE_ok b ct h3).se fun _ _ => rfl) rfl rfl
    · cases h
  | .neg a, X, c, x, ct, h => by
    simp only [chkE] at h
    split at h
    · exact .of ct.g (se_neg (chkE_ok a ct h).se fun _ _ => rfl) rfl rfl
    · cases h
  | .inv a, X, c, x, ct, h => by
    simp only [chkE] at h
    split at h
    · exact .of ct.g (se_inv (chkE_ok a ct h).se fun _ _ => rfl) rfl rfl
    · cases h
  | .not a, X, c, x, ct, h => by
    simp only [chkE] at h
    split at h
    · have q := chkE_ok a ct h
      exact ⟨se_not ct.g q.se fun _ _ => rfl, st_not q.st fun _ _ => rfl, fun z => (by cases z), fun z => (by cases z)⟩
    · cases h
  | .cmp op a b, X, c, x, ct, h => by
    simp only [chkE] at h
    split at h
    · simp only [Bool.and_eq_true, decide_eq_true_eq, Bool.not_eq_true'] at h
      obtain ⟨⟨⟨h1, h2⟩, h3⟩, h4⟩ := h
      subst h1
      exact ⟨se_cmp ct.g (chkE_ok a ct h2).se (chkE_ok b ct h3).se h4 fun _ _ => rfl, st_cmp ct.g (chkE_ok a ct h2).se (chkE_ok b ct h3).se h4 fun _ _ => rfl, fun z => (by cases z), fun z => (by cases z)⟩
    · cases h
  | .chain o1 o2 a b e, X, c, x, ct, h => by
    simp only [chkE] at h
    split at h
    · simp only [Bool.and_eq_true, decide_eq_true_eq, Bool.not_eq_true'] at h
      obtain ⟨⟨⟨⟨⟨h1, h2⟩, h3⟩, h4⟩, h5⟩, h6⟩ := h
      subst h1 h2
      exact ⟨se_chain ct.g (chkE_ok a ct h3).se (chkE_ok b ct h4).se (chkE_ok e ct h5).se h6 fun _ _ => rfl, st_chain ct.g (chkE_ok a ct h3).se (chkE_ok b ct h4).se (chkE_ok e ct h5).se h6 fun _ _ => rfl, fun z => (by cases z), fun z => (by cases z)⟩
    · cases h
  | .and a b, X, c, x, ct, h => by
    simp only [chkE] at h
    split at h
    · simp only [Bool.and_eq_true] at h
      have qa := chkE_ok a ct h.1
      have qb := chkE_ok b ct h.2
      have sw := sw_and (pos := by assumption) qa.st (sw_and1 qb.st) (f := evE C S.fs S.cur (.and a b)) fun _ _ => rfl
      exact ⟨se_and ct.g qa.se (se_and1 qb.se) fun _ _ => rfl, sw.st, fun _ => sw, fun z => (by cases z)⟩
    · simp only [Bool.and_eq_true] at h
      have qa := chkE_ok a ct h.1
      have qb := chkE_ok b ct h.2
      have sw := sw_and qa.st (qb.sw rfl) (f := evE C S.fs S.cur (.and a b)) fun _ _ => rfl
      exact ⟨se_and ct.g qa.se qb.se fun _ _ => rfl, sw.st, fun _ => sw, fun z => (by cases z)⟩
    · cases h
  | .or a b, X, c, x, ct, h => by
    simp only [chkE] at h
    split at h
    · simp only [Bool.and_eq_true] at h
      have qa := chkE_ok a ct h.1
      have qb := chkE_ok b ct h.2
      have sw := sw_or (pos := by assumption) qa.st (sw_or1 qb.st) (f := evE C S.fs S.cur (.or a b)) fun _ _ => rfl
      exact ⟨se_or ct.g qa.se (se_and1 qb.se) fun _ _ => rfl, sw.st, fun _ => sw, fun z => (by cases z)⟩
    · simp only [Bool.and_eq_true] at h
      have qa := chkE_ok a ct h.1
      have qb := chkE_ok b ct h.2
      have sw := sw_or qa.st (qb.sw rfl) (f := evE C S.fs S.cur (.or a b)) fun _ _ => rfl
      exact ⟨se_or ct.g qa.se qb.se fun _ _ => rfl, sw.st, fun _ => sw, fun z => (by cases z)⟩
    · cases h
  | .ite t a b, X, c, x, ct, h => by
    simp only [chkE] at h
    split at h
    · simp only [Bool.and_eq_true] at h
      have qt := chkE_ok t ct h.1.1
      have qa := chkE_ok a ct h.1.2
      have qb := chkE_ok b ct h.2
      exact ⟨se_ite qt.st qa.se qb.se fun _ _ => rfl, st_ite qt.st qa.st qb.st fun _ _ => rfl, fun z => (by cases z), fun z => (by cases z)⟩
    · cases h
  | .tup es, X, c, x, ct, h => by
    simp only [chkE] at h
    split at h
    · exact .of ct.g (se_tup (chkEs_ok es ct h).1 fun _ _ => rfl) rfl rfl
    · cases h
  | .lst es, X, c, x, ct, h => by
    simp only [chkE] at h
    split at h
    · exact .of ct.g (se_lst (chkEs_ok es ct h).1 fun _ _ => rfl) rfl rfl
    · cases h
  | .dic ps, X, c, x, ct, h => by
    simp only [chkE] at h
    split at h
    · rename_i ks vs p
      simp only [Bool.and_eq_true, decide_eq_true_eq] at h
      obtain ⟨h1, h2, h3, h4⟩ := chkPs_ok ps (pos := p) ct h.1
      by_cases h0 : ks = []
      · subst h0
        cases vs with
        | cons => simp at h3
        | nil => exact .of ct.g (se_dic0 fun ρ st => by simp [evE, h4 rfl, evPs]) rfl rfl
      · exact .of ct.g (se_dic h1 h2 h3 h0 h.2 fun _ _ => rfl) rfl rfl
    · cases h
  | .idx a i, X, c, x, ct, h => by
    simp only [chkE] at h
    split at h
    · simp only [Bool.and_eq_true] at h
      exact .of ct.g (se_idx ct.g (chkE_ok a ct h.1.1).se (chkE_ok i ct h.1.2).se h.2 fun _ _ => rfl) rfl rfl
    · cases h
  | .sl a lo hi, X, c, x, ct, h => by
    simp only [chkE] at h
    split at h
    · rename_i a' lo' hi' p2 p
      simp only [Bool.and_eq_true] at h
      obtain ⟨⟨h1, h2⟩, h3⟩ := h
      have part : ∀ (e : E) (o : Option Expr), (∀ x, chkE c e x = true → Good S X (evE C S.fs S.cur e) x) → (match o with | none => isOmit e | some y => !(isOmit e) && chkE c e y) = true → SO S X (fun ρ st => needI (isOmit e) (evE C S.fs S.cur e ρ st)) o := by
        intro e o ih ho
        cases o with
        | none =>
          simp only at ho
          refine so_none fun ρ st => ?_
          rw [ho]
          cases e <;> first | rfl | cases ho
        | some y =>
          simp only [Bool.and_eq_true, Bool.not_eq_true'] at ho
          exact so_some (ih y ho.2).se fun ρ st => by rw [ho.1]; rfl
      exact .of ct.g (se_sl ct.g (chkE_ok a ct h1).se (part lo lo' (fun x hx => chkE_ok lo ct hx) h2) (part hi hi' (fun x hx => chkE_ok hi ct hx) h3) fun _ _ => rfl) rfl rfl
    · cases h
  | .omit, X, c, x, ct, h => by simp [chkE] at h
  | .attr a f, X, c, x, ct, h => by simp [chkE] at h
  | .call f as, X, c, x, ct, h => by
    simp only [chkE] at h
    split at h
    · rename_i n p as' pos
      simp only [Bool.and_eq_true, decide_eq_true_eq] at h
      obtain ⟨⟨⟨⟨h1, h2⟩, h3⟩, h4⟩, h5⟩ := h
      subst h1
      obtain ⟨g1, g2⟩ := glob_gl ct.g h3
      obtain ⟨q1, q2, q3⟩ := chkEs_ok as ct h5
      cases as' with
      | cons e es => exact .of ct.g (se_call ct.g (ct.ca h4) (ct.fs _ h2) g1 g2 q1 q2 fun _ _ => rfl) rfl rfl
      | nil => exact .of ct.g (se_call0 ct.g (ct.ca h4) (ct.fs _ h2) g1 g2 fun ρ st => by rw [evE, q3 rfl]; rfl) rfl rfl
    · cases h
  | .blt b as, X, c, x, ct, h => by
    simp only [chkE] at h
    split at h
    · simp only [Bool.and_eq_true, decide_eq_true_eq, Bool.or_eq_true] at h
      obtain ⟨⟨⟨⟨h1, h2⟩, h3⟩, h4⟩, h5⟩ := h
      subst h1
      obtain ⟨g1, g2⟩ := glob_gl ct.g h3
      obtain ⟨q1, q2, q3⟩ := chkEs_ok as ct h5
      exact .of ct.g (se_blt0 ct.g ct.T (blt_ok ct.g.calm b (h4.imp id ct.ca)) h2 g1 q1 q2 fun _ _ => rfl) rfl rfl
    · cases h
  | .isin a ts, X, c, x, ct, h => by
    simp only [chkE] at h
    split at h
    · simp only [Bool.and_eq_true, decide_eq_true_eq] at h
      obtain ⟨⟨⟨⟨h1, h2⟩, h3⟩, h4⟩, h5⟩ := h
      subst h1
      obtain ⟨g1, g2⟩ := glob_gl ct.g h2
      obtain ⟨q1, q2⟩ := tysB_ok ct.g h5
      cases q2 with
      | cons r rr =>
        cases rr
        obtain ⟨p', e⟩ := r
        cases e
        obtain ⟨z1, z2, z3⟩ := q1 _ List.mem_cons_self
        exact .of ct.g (se_isin1 ct.g ct.T z1 g1 z2 z3 (chkE_ok a ct h3).se h4 fun _ _ => rfl) rfl rfl
    · simp only [Bool.and_eq_true, decide_eq_true_eq] at h
      obtain ⟨⟨⟨⟨⟨⟨h1, h2⟩, h3⟩, h4⟩, h5⟩, h6⟩, h7⟩ := h
      subst h1
      obtain ⟨g1, g2⟩ := glob_gl ct.g h2
      obtain ⟨q1, q2⟩ := tysB_ok ct.g h5
      exact .of ct.g (se_isinT ct.g ct.T (fun z => h7 (by rw [z]; rfl)) q1 q2 g1 h6 (chkE_ok a ct h3).se h4 fun _ _ => rfl) rfl rfl
    · cases h
  | .meth m o as, X, c, x, ct, h => by
    simp only [chkE] at h
    split at h
    · rename_i o' n ap as' p
      simp only [Bool.and_eq_true, decide_eq_true_eq] at h
      obtain ⟨⟨⟨⟨⟨h1, h2⟩, h3⟩, h4⟩, h5⟩, h6⟩ := h
      subst h1
      obtain ⟨q1, q2, q3⟩ := chkEs_ok as ct h6
      cases as' with
      | cons e es => exact .of ct.g (se_meth ct.g (chkE_ok o ct h2).se q1 q2 h3 h4 h5 fun _ _ => rfl) rfl rfl
      | nil => exact .of ct.g (se_meth0 ct.g (chkE_ok o ct h2).se h3 h4 fun ρ st => by rw [evE, q3 rfl]; rfl) rfl rfl
    · cases h
  | .comp own t it cond elt, X, c, x, ct, h => by
    simp only [chkE] at h
    split at h
    · rename_i elt' tg iter ifs scope pos
      simp only [Bool.and_eq_true, decide_eq_true_eq] at h
      obtain ⟨⟨⟨⟨⟨⟨⟨⟨h1, h2⟩, h3⟩, h4⟩, h5⟩, h6⟩, h7⟩, h8⟩, h9⟩ := h
      have hi := chkIt_ok it ct h3
      have hcu := ct.cu h2
      have hown : (ownP c.N own).map (·.2) = own := by simp [ownP, Function.comp_def]
      have hel : ∀ (s : Shared) (H : Hp) (C' : Addr) (cl : List (Str × Addr)) (fp : List Addr), SE S (X.blk s H scope (compEnvC scope cl C' X.env) fp) (fun ρ1 st => evE C S.fs S.cur elt ρ1 st) elt' := fun s H C' cl fp => (chkE_ok elt (ct.blk h2 s H scope C' cl fp) h8).se
      have ho : ∀ i ∈ tgIs t, i ∈ (ownP c.N own).map (·.2) := by rw [hown]; exact h7
      have hf : ∀ ρ st, evE C S.fs S.cur (.comp own t it cond elt) ρ st = (evIt C S.fs S.cur it ρ st).bind fun q st1 => if q.1.length ≤ big then noExc ((compL t (fun ρ1 st => evE C S.fs S.cur cond ρ1 st) (fun ρ1 st => evE C S.fs S.cur elt ρ1 st) (wipeE ρ ((ownP c.N own).map (·.2))) q.2 q.1 st1).bind fun ys st2 => .ok (.loc st2.length) (st2 ++ [.lst ys])) else .bad := by
        intro ρ st; rw [hown]; rfl
      split at h9
      · split at h9
        · exact ⟨se_comp ct.g hcu (ct.ca h1) hi (blkOk_by h4) h5 (pts_n fun _ _ => rfl) (fun _ _ _ _ _ => pts_nil) hel h6 ho hf,
            st_tru ct.g (se_comp ct.g hcu (ct.ca h1) hi (blkOk_by h4) h5 (pts_n fun _ _ => rfl) (fun _ _ _ _ _ => pts_nil) hel h6 ho hf) (tru_plain rfl), fun z => (by cases z),
            fun _ => sas_comp ct.g hcu (ct.ca h1) hi (blkOk_by h4) h5 (pts_n fun _ _ => rfl) (fun _ _ _ _ _ => pts_nil) hel h6 ho hf⟩
        · cases h9
      · rename_i y
        have hcn : ∀ (s : Shared) (H : Hp) (C' : Addr) (cl : List (Str × Addr)) (fp : List Addr), PTs (X.blk s H scope (compEnvC scope cl C' X.env) fp) [y] (RTT S Wn (fun ρ1 st => evE C S.fs S.cur cond ρ1 st)) := fun s H C' cl fp => pts_one ((chkE_ok cond (ct.blk h2 s H scope C' cl fp) h9).st Wn takes_n)
        exact ⟨se_comp ct.g hcu (ct.ca h1) hi (blkOk_by h4) h5 (fun _ _ _ h => h) hcn hel h6 ho hf,
          st_tru ct.g (se_comp ct.g hcu (ct.ca h1) hi (blkOk_by h4) h5 (fun _ _ _ h => h) hcn hel h6 ho hf) (tru_plain rfl), fun z => (by cases z),
          fun _ => sas_comp ct.g hcu (ct.ca h1) hi (blkOk_by h4) h5 (fun _ _ _ h => h) hcn hel h6 ho hf⟩
      · cases h9
    · cases h
  | .fstr ps, X, c, x, ct, h => by
    simp only [chkE] at h
    split at h
    · exact .of ct.g (se_fstr (chkFs_ok ps ct h) fun _ _ => rfl) rfl rfl
    · cases h
  | .exF f, X, c, x, ct, h => by
    simp only [chkE] at h
    split at h
    · simp only [Bool.and_eq_true, decide_eq_true_eq] at h
      obtain ⟨⟨h1, h2⟩, h3⟩ := h
      subst h1
      split at h3
      · rename_i q hq
        have h3 := of_decide_eq_true h3
        subst h3
        exact .of ct.g (ct.exh q.1 q.2 hq _ h2 _ _) rfl rfl
      · cases h3
    · cases h
  | .exIs cs, X, c, x, ct, h => by
    simp only [chkE] at h
    split at h
    · simp only [Bool.and_eq_true, decide_eq_true_eq] at h
      obtain ⟨⟨⟨⟨h1, h2⟩, h3⟩, h4⟩, h5⟩ := h
      subst h1
      split at h3
      · rename_i q hq
        have h3 := of_decide_eq_true h3
        subst h3
        obtain ⟨g1, g2⟩ := glob_gl ct.g h4
        exact .of ct.g (ct.exi q.1 q.2 hq _ h5 (glob_gl ct.g h2).1 g1 g2 _ _ _ _) rfl rfl
      · cases h3
    · cases h
  | .frz a, X, c, x, ct, h => by
    simp only [chkE, Bool.and_eq_true] at h
    have q := chkE_ok a ct h.1
    have se := se_frz (S := S) (X := X) (f := evE C S.fs S.cur (.frz a)) q.se fun _ _ => rfl
    exact ⟨se, st_tru ct.g se (tru_plain h.2), (fun z => by cases x <;> first | (cases z; done) | (cases h.2; done)), fun z => sas_frz (q.sas z) fun _ _ => rfl⟩
  | .callH g b as, X, c, x, ct, h => by
    simp only [chkE] at h
    split at h
    · simp only [Bool.and_eq_true, decide_eq_true_eq] at h
      obtain ⟨⟨⟨⟨⟨⟨⟨⟨⟨h0, h1⟩, h2⟩, h3⟩, h4⟩, h5⟩, h6⟩, h7⟩, h8⟩, h9⟩ := h
      subst h1
      have h8 := noArgs_eq h8
      subst h8
      split at h0
      · obtain ⟨g1, g2⟩ := glob_gl ct.g h3
        exact .of ct.g (se_callH ct (ct.ca h4) h2 h5 g1 g2 (LamX.lamS_by (by rw [ct.g.sc]; exact h7)) fun C' kl Xl c0 => (chkE_ok b (S := S.bare) (C := C') ⟨c0, fun _ z => (nomatch z), fun z => (nomatch z)⟩ h9).se) rfl rfl
      · cases h0
    · cases h
  | .callv, X, c, x, ct, h => by simp [chkE] at h
  | .comp2 _ _ _ _ _ _ _ _, X, c, x, ct, h => by simp [chkE] at h
  | .new _ _, X, c, x, ct, h => by simp [chkE] at h
  | .prop _ _, X, c, x, ct, h => by simp [chkE] at h
  | .mcall _ _ _, X, c, x, ct, h => by simp [chkE] at h
theorem chkEs_ok {C : Orc} {S : Sta} {k : Nat} : ∀ (es : Es) {X : Cx} {c : Ck} {xs : List Expr}, Ctx C S k X c → chkEs c es xs = true → SA S X (evEs C S.fs S.cur es) xs ∧ xs.all noStar = true ∧ (xs = [] → es = .nil)
  | .nil, X, c, xs, ct, h => by
    simp only [chkEs] at h
    split at h
    · exact ⟨sa_nil fun _ _ => rfl, rfl, fun _ => rfl⟩
    · cases h
  | .cons e es, X, c, xs, ct, h => by
    simp only [chkEs] at h
    split at h
    · simp only [Bool.and_eq_true] at h
      obtain ⟨q1, q2, q3⟩ := chkEs_ok es ct h.2
      exact ⟨sa_cons (chkE_ok e ct h.1.1).se q1 h.1.2 fun _ _ => rfl, by simp only [List.all_cons, Bool.and_eq_true]; exact ⟨h.1.2, q2⟩, fun z => nomatch z⟩
    · cases h
theorem chkPs_ok {C : Orc} {S : Sta} {k : Nat} : ∀ (ps : Ps) {X : Cx} {c : Ck} {ks : List (Option Expr)} {xs : List Expr} {pos : Pos}, Ctx C S k X c → chkPs c ps ks xs = true → SP' S X pos (evPs C S.fs S.cur ps) ks xs ∧ ks.all (·.isSome) = true ∧ ks.length = xs.length ∧ (ks = [] → ps = .nil)
  | .nil, X, c, ks, xs, pos, ct, h => by
    simp only [chkPs] at h
    split at h
    · exact ⟨sp_nil fun _ _ => rfl, rfl, rfl, fun _ => rfl⟩
    · cases h
  | .cons kk e ps, X, c, ks, xs, pos, ct, h => by
    simp only [chkPs] at h
    split at h
    · simp only [Bool.and_eq_true] at h
      obtain ⟨q1, q2, q3, q4⟩ := chkPs_ok ps (pos := pos) ct h.2
      exact ⟨sp_cons (key_pe h.1.1) (chkE_ok e ct h.1.2).se q1 fun _ _ => rfl, by simp only [List.all_cons, Bool.and_eq_true]; exact ⟨rfl, q2⟩, by simp [q3], fun z => nomatch z⟩
    · cases h
  | .consE ke e ps, X, c, ks, xs, pos, ct, h => by
    simp only [chkPs] at h
    split at h
    · simp only [Bool.and_eq_true] at h
      obtain ⟨q1, q2, q3, q4⟩ := chkPs_ok ps (pos := pos) ct h.2
      exact ⟨sp_consE (chkE_ok ke ct h.1.1).se (chkE_ok e ct h.1.2).se q1 fun _ _ => rfl, by simp only [List.all_cons, Bool.and_eq_true]; exact ⟨rfl, q2⟩, by simp [q3], fun z => nomatch z⟩
    · cases h
theorem chkFs_ok {C : Orc} {S : Sta} {k : Nat} : ∀ (es : Es) {X : Cx} {c : Ck} {xs : List Expr}, Ctx C S k X c → chkFs c es xs = true → SFs S X (evFs C S.fs S.cur es) xs
  | .nil, X, c, xs, ct, h => by
    simp only [chkFs] at h
    split at h
    · exact sfs_nil fun _ _ _ => rfl
    · cases h
  | .cons e es, X, c, xs, ct, h => by
    simp only [chkFs] at h
    split at h
    · simp only [Bool.and_eq_true] at h
      obtain ⟨h1, h2⟩ := h
      split at h1
      · have h1 := of_decide_eq_true h1
        subst h1
        exact sfs_cons (sf_con fun _ _ => rfl) (chkFs_ok es ct h2) fun _ _ _ => rfl
      · cases h1
    · simp only [Bool.and_eq_true, decide_eq_true_eq] at h
      obtain ⟨⟨h1, h2⟩, h3⟩ := h
      subst h1
      exact sfs_cons (sf_fmt (chkE_ok e ct h2).se) (chkFs_ok es ct h3) fun _ _ _ => rfl
    · cases h
theorem chkIt_ok {C : Orc} {S : Sta} {k : Nat} : ∀ (it : It) {X : Cx} {c : Ck} {t x : Expr}, Ctx C S k X c → chkIt c it t x = true → SI S X (evIt C S.fs S.cur it) t x
  | .e a, X, c, t, x, ct, h => by
    simp only [chkIt] at h
    exact si_e ct.g (chkE_ok a ct h).se fun _ _ => rfl
  | .rng1 a, X, c, t, x, ct, h => by
    simp only [chkIt] at h
    split at h
    · simp only [Bool.and_eq_true, decide_eq_true_eq] at h
      obtain ⟨⟨⟨h1, h2⟩, h3⟩, h4⟩ := h
      subst h1
      exact si_rng1 ct.g ct.T (glob_gl ct.g h2).1 (chkE_ok a ct h3).se h4 fun _ _ => rfl
    · cases h
  | .rng2 a b, X, c, t, x, ct, h => by
    simp only [chkIt] at h
    split at h
    · simp only [Bool.and_eq_true, decide_eq_true_eq] at h
      obtain ⟨⟨⟨⟨⟨h1, h2⟩, h3⟩, h4⟩, h5⟩, h6⟩ := h
      subst h1
      exact si_rng2 ct.g ct.T (glob_gl ct.g h2).1 (chkE_ok a ct h3).se (chkE_ok b ct h5).se h4 h6 fun _ _ => rfl
    · cases h
  | .zip a b, X, c, t, x, ct, h => by
    simp only [chkIt, Bool.and_eq_true] at h
    obtain ⟨h0, h⟩ := h
    cases t <;> first | (cases h0; done) | skip
    split at h
    · simp only [Bool.and_eq_true, decide_eq_true_eq] at h
      obtain ⟨⟨⟨⟨⟨h1, h2⟩, h3⟩, h4⟩, h5⟩, h6⟩ := h
      subst h1
      exact si_zip ct.g ct.T.zip (glob_gl ct.g h2).1 (chkE_ok a ct h3).se (chkE_ok b ct h5).se h4 h6 fun _ _ => rfl
    · cases h
  | .enum a, X, c, t, x, ct, h => by
    simp only [chkIt, Bool.and_eq_true] at h
    obtain ⟨h0, h⟩ := h
    cases t <;> first | (cases h0; done) | skip
    split at h
    · simp only [Bool.and_eq_true, decide_eq_true_eq] at h
      obtain ⟨⟨⟨h1, h2⟩, h3⟩, h4⟩ := h
      subst h1
      exact si_enum ct.g ct.T.enm (glob_gl ct.g h2).1 (chkE_ok a ct h3).se h4 fun _ _ => rfl
    · cases h
end
end MM
end

section
set_option Elab.async false
set_option linter.all false
set_option maxRecDepth 100000
set_option maxHeartbeats 4000000
/-! MMForL: for w in [lambda: .., ..]: if g(w) op rhs: body. -/
namespace MM
open PySem L2 PyProof.Rows
/-- a lambda's form, its text, its names -/
abbrev Lt := E × Expr × Scope
def LamF (X : Cx) (t : Lt) (H : Hp) (v : V) : Prop := ∃ f c pm ct, v = .ref f ∧ H f = some (LamO (X.env.qual ++ "<lambda>") noA t.2.1 t.2.2 X.env.cells pm c ct f) ∧ H c = some (LamX.CodeO c (X.env.qual ++ "<lambda>"))
def LamL (X : Cx) (H : Hp) (ts : List Lt) (vs : List V) : Prop := Paired (fun t v => LamF X t H v) ts vs
theorem LamF.mono {X : Cx} {t : Lt} {H H1 : Hp} {v : V} (h : LamF X t H v) (k : ∀ a o, H a = some o → fixO o = true → H1 a = some o) : LamF X t H1 v := by
  obtain ⟨f, c, pm, ct, e, h1, h2⟩ := h
  exact ⟨f, c, pm, ct, e, k _ _ h1 rfl, k _ _ h2 rfl⟩
theorem extN_fix {H H1 : Hp} (e : LamX.ExtN H H1) : ∀ a o, H a = some o → fixO o = true → H1 a = some o := fun a o h hf => e a o h fun ps z => by rw [z] at hf; cases hf
section
variable {S : Sta} {k : Nat} {X : Cx} {N : List Str} {sc : Scope} {Wx : WX} {pos p : Pos}
theorem pa_lams {C : Orc} {c : Ck} (ct : Ctx C S k X c) (hl : c.lam = true) : ∀ {ts : List Lt} {es : List Expr}, Paired (fun (t : Lt) (e : Expr) => ∃ p, e = .Lambda noA t.2.1 t.2.2 p) ts es → (∀ t ∈ ts, LamX.LamS X.env.scope t.2.2) →
    PA X es (fun σ H Q => LamX.Tabs S.G.T H ∧ ∀ H1 vs, LamX.ExtN H H1 → LamX.Tabs S.G.T H1 → LamL X H1 ts vs → Q vs H1)
  | [], _, .nil, _ => pa_imp pa_nil fun σ H Q ⟨h1, h2⟩ => h2 H [] (LamX.ExtN.refl H) h1 .nil
  | t :: ts, _, .cons ⟨lp, e⟩ r, hL => by
    subst e
    have ih := pa_lams ct hl r fun t' ht' => hL t' (List.mem_cons_of_mem _ ht')
    obtain ⟨cd, P, hcode, TB, hm, hu⟩ := ct.lamc hl
    have one : PE X (.Lambda noA t.2.1 t.2.2 lp) (fun σ H Q => LamX.Tabs S.G.T H ∧ ∀ H1 v, LamX.ExtN H H1 → LamX.Tabs S.G.T H1 → LamF X t H1 v → Q v H1) := by
      refine ⟨fun pins s σ H Q I ⟨h1, h2⟩ => ?_⟩
      exact lam_new I TB hcode hm hu h1 rfl (hL t List.mem_cons_self) fun f c' pm ctv H1 s1 I1 nw => ⟨.ref f, H1, I1, rfl, h2 H1 _ nw.ext nw.tab ⟨f, c', pm, ctv, rfl, nw.obj, nw.cod⟩⟩
    refine pa_imp (pa_cons one ih rfl) fun σ H Q ⟨h1, h2⟩ => ⟨h1, fun H1 v x1 t1 l1 => ⟨t1, fun H2 vs x2 t2 l2 => h2 H2 (v :: vs) (x1.trans x2) t2 (.cons (l1.mono (extN_fix x2)) l2)⟩⟩
/-- the call of a def with the lambda that a name holds -/
def tGot (C : Orc) (S : Sta) (X : Cx) (k : Nat) (c : Ck) (gn : Str) (i : Nat) : TE := fun σ H Q => ∃ W ρ st b body lsc v, StOk S.G W st H ∧ EnvOk S.G.k W H ρ σ ∧ σ[i]? = some (some v) ∧ LamF X (b, body, lsc) H v ∧ LamX.LamS X.env.scope lsc ∧
  (∀ (C' : Orc) (kl : Nat) (Xl : Cx), Ctx0 C' S.bare kl Xl (c.lamCk lsc) → SE S.bare Xl (evE C' S.fs none b) body) ∧ Out S.G W H (noExc (C ((ρ, some b) :: S.fs) gn [] st)) Q
theorem pe_got {C : Orc} {c : Ck} {gn x : Str} {i : Nat} (ct : Ctx C S k X c) (hc : X.calm = true) (hgn : gn ∈ c.hos) (hg : Gl X gn) (hdb : (gn == ("__debug__" : Str)) = false) (hN : X.N[i]? = some x) (hv : Vis X.env.scope x) (hd : (x == ("__debug__" : Str)) = false) (hcd : (x == ("__classdict__" : Str)) = false) {px : Pos} :
    PE X (.Call (.Name gn p) [.Name x px] [] pos) (tGot C S X k c gn i) := by
  refine ⟨fun pins s σ H Q I ⟨W, ρ, st, b, body, lsc, v, so, eo, hi, ⟨f, c', pm, ctv, ev, hf, hco⟩, L, hb, ho⟩ => ?_⟩
  subst ev
  obtain ⟨C', kl, ga, hga, hk, run⟩ := ct.ho gn hgn
  have pa : PA X [.Name x px] (tCons (tVar i) tNil) := pa_cons (pe_var hN hv hd hcd) pa_nil rfl
  refine wpAny_Call_Name_kw (ld_glob I hg (by rw [ct.g.mg]; exact hga) ?_ hdb)
  refine PySem.W.callWith_K (h₀ := X.base) I.ok.mod.kin (by rw [← ct.g.K]; exact hk) (thn (pa.run pos pins s σ H (fun vs H1 => vs = [.ref f] ∧ H1 = H) I ⟨.ref f, hi, rfl, rfl⟩) fun us s1 ⟨vs, H1, I1, r, q⟩ => ⟨I1.kIn, ?_⟩) (by rfl) (by rfl)
  obtain ⟨rfl, rfl⟩ := q
  obtain ⟨u, rfl, ru⟩ := vals1 r
  obtain rfl : u = Value.ref f := ru
  have rc := run X c.sc ct.g hc b body lsc f c' pm ctv L (hb C' kl) pins s1 σ H1 Q W ρ st I1 hf hco so eo ho
  have hx : PassesAt (L2.CX X.prog X.w) X σ (WE Wn σ) := passAt takes_n σ
  refine wpAny_call (codeAny_mono rc fun res s2 hq => ?_)
  match res, hq with
  | .error e, hq => exact hx pins H1 s1 e s2 I1 hq
  | .ok (.ret u), hq => exact I1.after hq
def esL : Es → List E
  | .nil => []
  | .cons e es => e :: esL es
def esDrop : Nat → Es → Es
  | 0, es => es
  | _ + 1, .nil => .nil
  | n + 1, .cons _ es => esDrop n es
theorem es_drop : ∀ {es : Es} {i : Nat} {e : E}, (esL es)[i]? = some e → esDrop i es = .cons e (esDrop (i + 1) es)
  | .nil, _, _, h => by simp [esL] at h
  | .cons e es, 0, _, h => by simp [esL] at h; subst h; rfl
  | .cons e es, i + 1, _, h => by
    simp only [esL, List.getElem?_cons_succ] at h
    exact es_drop (es := es) h
theorem es_end : ∀ {es : Es} {i : Nat}, (esL es).length ≤ i → esDrop i es = .nil
  | .nil, 0, _ => rfl
  | .nil, _ + 1, _ => rfl
  | .cons e es, 0, h => by simp [esL] at h
  | .cons e es, i + 1, h => by
    simp only [esL, List.length_cons] at h
    exact es_end (es := es) (by omega)
theorem ss_forS {C : Orc} {c : Ck} {gn x : Str} {i : Nat} {es : Es} {ts : List Lt} {elts : List Expr} {op : CmpOp} {fr : Env → Store → Res D} {fb f : Env → Store → SRes} {rhs : Expr} {b0 : List Stmt} {px pl py pg pcl pc pif : Pos} (hcu : S.plain) (gs : GS S k X c.N c.sc) (ct : Ctx C S k X c) (hc : X.calm = true)
    (hl : c.lam = true) (hgn : gn ∈ c.hos) (hg : Gl X gn) (hdb : (gn == ("__debug__" : Str)) = false) (hNx : c.N[i]? = some x) (hsx : stoB yesC c.sc x = true) (hv : Vis X.env.scope x) (hd : (x == ("__debug__" : Str)) = false) (hcd : (x == ("__classdict__" : Str)) = false)
    (hts : ts.map (·.1) = esL es) (hp : Paired (fun (t : Lt) (e : Expr) => ∃ p, e = .Lambda noA t.2.1 t.2.2 p) ts elts) (hL : ∀ t ∈ ts, LamX.LamS X.env.scope t.2.2) (hlen : ts.length ≤ 1000)
    (hb : ∀ t ∈ ts, ∀ (C' : Orc) (kl : Nat) (Xl : Cx), Ctx0 C' S.bare kl Xl (c.lamCk t.2.2) → SE S.bare Xl (evE C' S.fs none t.1) t.2.1)
    (hr : SE S X fr rhs) (hm : behindInMarks op rhs = false) (hbody : SSs S X fb b0)
    (hf : ∀ ρ st, f ρ st = evLams C S.fs gn i op fr fb es ρ st) :
    SSt S X f (.For (.Name x px) (.List elts pl) [.If (.Compare (.Call (.Name gn pg) [.Name x py] [] pcl) [op] [rhs] pc) b0 [] pif] [] pos) := by
  intro Wx tk
  have test : PT X (.Compare (.Call (.Name gn pg) [.Name x py] [] pcl) [op] [rhs] pc) (fun σ H Q => tGot C S X k c gn i σ H fun v H1 => RT S Wx fr σ H1 fun w H2 => rCmp S.G op v w H2 fun z H3 => ∃ kk, z = .bl kk ∧ Q kk H3) :=
    pt_imp (pt_cmpR (op_cmp ct.g.K (by have := ct.g.un; omega) op) (pe_got ct hc hgn hg hdb (by rw [ct.g.nm]; exact hNx) hv hd hcd) (hr Wx tk) hm) fun σ H Q h => h
  have body := pss_one (ps_if (pos := pif) test (hbody Wx tk) pss_nil)
  have tgt : tgB c.N yesC c.sc (.n i) (.Name x px) = true := by
    show (decide (c.N[i]? = some x) && stoB yesC c.sc x) = true
    rw [hsx, hNx]; simp
  refine ps_imp (ps_for gs.ps hc (pi_list (pe_lst (pa_lams ct hl hp hL))) (pg_of gs.toGX gs.cel hc tgt) body (fun _ => rfl)) fun D σ H ⟨W, ρ, st, r, h⟩ => ?_
  rw [hf] at h
  refine ⟨r.so.tab, fun H1 vs x1 t1 l1 => ⟨?_, fun q hq => ⟨q, rfl, ⟨vs, SqL.of upd_same⟩, ?_⟩⟩⟩
  · have hv : ts.length = vs.length := Paired.length l1
    rw [← hv, sizeLine_eq]; omega
  have xe1 : Ext W H W H1 := ⟨List.prefix_refl _, fun _ h => .inl h, fun a o e _ hn => x1 a o e hn, extN_fix x1⟩
  have so1 : StOk S.G W st H1 := by
    refine ⟨t1, r.so.len, r.so.inj, fun n c a h1 h2 => (r.so.cell n c a h1 h2).imp (fun hw => ?_) (fun o u h => x1 _ _ h fun _ z => nomatch z) (fun _ _ r => r.ext xe1) fun _ _ r => r.ext xe1⟩
    obtain ⟨o, ho, hm⟩ := (r.so.cell n c a h1 h2).some hw
    rw [ho]
    exact x1 _ _ ho (mutO_tbl hm)
  have xe2 : Ext W H W (upd H1 q (.lst vs)) := xe1.trans (Ext.new hq)
  have r2 := r.next xe2 (so1.new hq)
  have l2 : LamL X (upd H1 q (.lst vs)) ts vs := Paired.mapP l1 fun _ _ z => z.mono fun a o e _ => by rw [upd_ne (ne_of_none e hq)]; exact e
  have qout : q ∉ W := so1.fresh hq
  have hlv : ts.length = vs.length := Paired.length l1
  have hle : (esL es).length = ts.length := by rw [← hts]; simp
  refine ⟨fun j m σ' H' => m = ts.length - j ∧ j ≤ ts.length ∧ ∃ W1 ρ1 st1, Ext W (upd H1 q (.lst vs)) W1 H' ∧ Rl S W1 ρ1 st1 σ' H' ∧ AftS S Wx D W (upd H1 q (.lst vs)) (evLams C S.fs gn i op fr fb (esDrop j es) ρ1 st1), ⟨ts.length, by simp, Nat.zero_le _, W, ρ, st, Ext.refl, r2, AftS.later h xe2⟩, ?_⟩
  rintro j m σ1 H3 ⟨rfl, hj, W1, ρ1, st1, x3, r3, h3⟩
  have hq3 : H3 q = some (.lst vs) := x3.keep q _ upd_same qout (fun _ z => nomatch z)
  have it := itl_vs (K := X.K) (SqL.of hq3) j
  by_cases hlt : j < ts.length
  · right
    obtain ⟨go, yld⟩ := it.1 (by omega)
    refine ⟨go, fun σ' H' => ∃ W' ρ' st', Ext W (upd H1 q (.lst vs)) W' H' ∧ Rl S W' ρ' st' σ' H' ∧ AftS S Wx D W (upd H1 q (.lst vs)) (evLams C S.fs gn i op fr fb (esDrop (j + 1) es) ρ' st'), fun σ' H' n => ⟨ts.length - (j + 1), by omega, rfl, hlt, n⟩, fun v H' yy => ?_⟩
    obtain ⟨rfl, hvj⟩ := yld v H' yy
    obtain ⟨t, ht, lf⟩ : ∃ t, ts[j]? = some t ∧ LamF X t (upd H1 q (.lst vs)) v := by
      clear h3 it yld go hlen hj hle
      have key : ∀ (n : Nat) (ts : List Lt) (vs' : List V), Paired (fun t v => LamF X t (upd H1 q (.lst vs)) v) ts vs' → vs'[n]? = some v → ∃ t, ts[n]? = some t ∧ LamF X t (upd H1 q (.lst vs)) v := by
        intro n
        induction n with
        | zero =>
          intro ts vs' hp hv
          cases hp with
          | nil => simp at hv
          | cons z _ => simp at hv; subst hv; exact ⟨_, rfl, z⟩
        | succ n ih =>
          intro ts vs' hp hv
          cases hp with
          | nil => simp at hv
          | cons _ z => simpa using ih _ _ z (by simpa using hv)
      exact key j ts vs l2 hvj
    have hes : (esL es)[j]? = some t.1 := by rw [← hts, List.getElem?_map, ht]; rfl
    rw [es_drop hes] at h3
    simp only [evLams] at h3
    by_cases hlen3 : ρ1.length ≤ i
    · rw [if_pos hlen3] at h3; exact h3.elim
    rw [if_neg hlen3] at h3
    have htm : t ∈ ts := List.mem_of_getElem? ht
    have lf3 : LamF X t H' v := lf.mono x3.fix
    have eo3 : EnvOk S.G.k W1 H' (ρ1.set i none) (σ1.set i (some v)) := r3.eo.set'
    have hi3 : (σ1.set i (some v))[i]? = some (some v) := by
      exact List.getElem?_set_self (by rw [← r3.eo.1]; omega)
    show tGot C S X k c gn i _ H' _
    refine ⟨W1, ρ1.set i none, st1, t.1, t.2.1, t.2.2, v, r3.so, eo3, hi3, lf3, hL t htm, fun C' kl Xl c0 => hb t htm C' kl Xl c0, ?_⟩
    have r0 : Rl S W1 (ρ1.set i none) st1 (σ1.set i (some v)) H' := Rl.mk0 hcu r3.so eo3
    unfold stepL at h3
    cases e1 : noExc (C ((ρ1.set i none, some t.1) :: S.fs) gn [] st1) with
    | exc ex st' => exact (noExc_exc _ _ _ e1).elim
    | bad => simp only [e1, Res.bind_bad, SRes.of_bad] at h3; exact h3.elim
    | ok d st2 =>
      intro W4 H4 u x4 so4 ru
      simp only [e1, Res.bind_ok] at h3
      refine ⟨W4, ρ1.set i none, st2, r0.next x4 so4, ?_⟩
      cases e2 : fr (ρ1.set i none) st2 with
      | bad => simp only [e2, Res.bind_bad, SRes.of_bad] at h3; exact h3.elim
      | exc ex st3 =>
        simp only [e2, Res.bind_exc, SRes.of_exc] at h3
        intro W5 H5 cls dd x5 so5 qe
        exact h3 W5 H5 _ cls dd ((x3.trans x4).trans x5) so5 ((eo3.ext x4).ext x5) qe
      | ok w st3 =>
        simp only [e2, Res.bind_ok] at h3
        intro W5 H5 x5 so5 z rz
        cases e3 : cmpD op d w st3 with
        | none => simp only [e3, SRes.of_bad] at h3; exact h3.elim
        | some kk =>
          simp only [e3, SRes.of_ok] at h3
          refine ⟨W5, st3, d, w, kk, so5, ru.ext x5, rz, e3, kk, rfl, ?_⟩
          obtain ⟨W6, x6, so6, _⟩ := gc_ok (l := 0) r3.so (x4.trans x5) so5
          have r6 := r0.next x6 so6
          have x36 := x3.trans x6
          cases kk with
          | false =>
            simp only [Bool.false_eq_true, if_false] at h3 ⊢
            exact ⟨W6, _, _, x36, r6, h3⟩
          | true =>
            simp only [if_true] at h3 ⊢
            refine ⟨W6, _, _, r6, ?_⟩
            cases e4 : fb (ρ1.set i none) (gc st1 st3 0) with
            | nxt ρ4 st4 => rw [e4] at h3; intro W7 H7 σ7 x7 so7 eo7; exact ⟨W7, ρ4, st4, x36.trans x7, Rl.mk0 hcu so7 eo7, h3⟩
            | cnt ρ4 st4 => rw [e4] at h3; intro W7 H7 σ7 x7 so7 eo7; exact ⟨W7, ρ4, st4, x36.trans x7, Rl.mk0 hcu so7 eo7, h3⟩
            | brk ρ4 st4 => rw [e4] at h3; intro W7 H7 σ7 x7 so7 eo7; exact h3 W7 H7 σ7 (x36.trans x7) so7 eo7
            | ret d4 st4 => rw [e4] at h3; intro W7 H7 v7 x7 so7 rv7; exact h3 W7 H7 v7 (x36.trans x7) so7 rv7
            | exc ex ρ4 st4 => rw [e4] at h3; intro W7 H7 σ7 cls dd x7 so7 eo7 q7; exact h3 W7 H7 σ7 cls dd (x36.trans x7) so7 eo7 q7
            | bad => rw [e4] at h3; exact h3.elim
  · left
    have hje : j = ts.length := by omega
    refine ⟨it.2 (by omega), ?_⟩
    rw [es_end (by omega)] at h3
    exact h3 W1 H3 σ1 x3 r3.so r3.eo
/-- the written lambdas -/
def chkLs (c : Ck) : Es → List Expr → Bool
  | .nil, xs => match xs with | [] => true | _ => false
  | .cons e es, xs => match xs with
    | .Lambda ps body lsc _ :: r => noArgs ps && LamX.lamSB c.sc lsc && chkE { c with sc := lsc, hos := [], lam := false, ex := none } e body && chkLs c es r
    | _ => false
theorem chkLs_ok {C : Orc} {c : Ck} (ct : Ctx C S k X c) : ∀ {es : Es} {xs : List Expr}, chkLs c es xs = true → ∃ ts : List Lt, ts.map (·.1) = esL es ∧ Paired (fun (t : Lt) (e : Expr) => ∃ p, e = .Lambda noA t.2.1 t.2.2 p) ts xs ∧ (∀ t ∈ ts, LamX.LamS X.env.scope t.2.2) ∧ ts.length = xs.length ∧
    ∀ t ∈ ts, ∀ (C' : Orc) (kl : Nat) (Xl : Cx), Ctx0 C' S.bare kl Xl (c.lamCk t.2.2) → SE S.bare Xl (evE C' S.fs none t.1) t.2.1
  | .nil, xs, h => by
    simp only [chkLs] at h
    split at h
    · exact ⟨[], rfl, .nil, (fun t ht => nomatch ht), rfl, fun t ht => nomatch ht⟩
    · cases h
  | .cons e es, xs, h => by
    simp only [chkLs] at h
    split at h
    · rename_i ps body lsc lp r
      simp only [Bool.and_eq_true] at h
      obtain ⟨⟨⟨h1, h2⟩, h3⟩, h4⟩ := h
      have h1 := noArgs_eq h1
      subst h1
      obtain ⟨ts, q1, q2, q3, q4, q5⟩ := chkLs_ok ct h4
      refine ⟨(e, body, lsc) :: ts, by simp [esL, q1], .cons ⟨lp, rfl⟩ q2, fun t ht => ?_, by simp [q4], fun t ht => ?_⟩
      · rcases List.mem_cons.mp ht with z | z
        · subst z; exact LamX.lamS_by (by rw [ct.g.sc]; exact h2)
        · exact q3 t z
      · rcases List.mem_cons.mp ht with z | z
        · subst z
          intro C' kl Xl c0
          exact (chkE_ok e (S := S.bare) (C := C') ⟨c0, fun _ z => (nomatch z), fun z => (nomatch z)⟩ h3).se
        · exact q5 t z
    · cases h
end
end MM
end

section
set_option Elab.async false
set_option linter.all false
set_option maxRecDepth 100000
set_option maxHeartbeats 4000000
/-! MMChk2: the check of statements, and what it gives. -/
namespace MM
open PySem L2 PyProof.Rows
def isStar : Expr → Bool | .Starred .. => true | _ => false
def swNames (sc : Scope) (line : Nat) (ts : List Expr) : List Str := ts.filterMap fun
    | .Name id pos => if sc.names.lookup id == some .local && pos.line == line then some id else none
    | _ => none
def swapR (sc : Scope) (ts vs : List Expr) : Option (Option (List Str)) :=
  if !(ts.length == 2 || ts.length == 3) || vs.length != ts.length then some none
  else if vs.any isStar then some none
  else if (swNames sc ((ts.head?.map (·.pos.line)).getD 0) ts).length != ts.length || (swNames sc ((ts.head?.map (·.pos.line)).getD 0) ts).eraseDups.length != (swNames sc ((ts.head?.map (·.pos.line)).getD 0) ts).length then some none
  else if vs.all (foldedForSure 8) then some none
  else if vs.all (constantsAlone 8) then none
  else some (some (swNames sc ((ts.head?.map (·.pos.line)).getD 0) ts))
theorem swapR_ok {sc : Scope} {env : PySem.Env} (h1 : env.scope = sc) (h2 : sc.kind = .function) {ts vs : List Expr} {k k2 : Nat} {p p2 : Pos} {r : Option (List Str)} (h : swapR sc ts vs = some r) : swappedStores [.Tuple ts k p] (.Tuple vs k2 p2) env = pure r := by
  have hb : env.blockKind = .function := by unfold Env.blockKind; rw [h1, h2]; rfl
  unfold swapR at h
  unfold swappedStores
  simp only [hb]
  subst h1
  show (if (!(ts.length == 2 || ts.length == 3) || vs.length != ts.length || ScopeKind.function != ScopeKind.function) = true then pure none else if vs.any isStar = true then pure none
    else if ((swNames env.scope ((ts.head?.map (·.pos.line)).getD 0) ts).length != ts.length || (swNames env.scope ((ts.head?.map (·.pos.line)).getD 0) ts).eraseDups.length != (swNames env.scope ((ts.head?.map (·.pos.line)).getD 0) ts).length) = true then pure none
    else if vs.all (foldedForSure 8) = true then pure none
    else if vs.all (constantsAlone 8) = true then _ else pure (some (swNames env.scope ((ts.head?.map (·.pos.line)).getD 0) ts))) = pure r
  have hff : (ScopeKind.function != ScopeKind.function) = false := rfl
  rw [hff, Bool.or_false]
  split at h
  · rename_i c1; rw [if_pos c1]; cases h; rfl
  · rename_i c1; rw [if_neg c1]
    split at h
    · rename_i c2; rw [if_pos c2]; cases h; rfl
    · rename_i c2; rw [if_neg c2]
      split at h
      · rename_i c3; rw [if_pos c3]; cases h; rfl
      · rename_i c3; rw [if_neg c3]
        split at h
        · rename_i c4; rw [if_pos c4]; cases h; rfl
        · rename_i c4; rw [if_neg c4]
          split at h
          · cases h
          · rename_i c5; rw [if_neg c5]; cases h; rfl

def isTup : Expr → Bool | .Tuple .. => true | .List .. => true | _ => false
theorem swap_none {ts : List Expr} {e : Expr} {k : Nat} {p : Pos} {env : PySem.Env} (h : isTup e = false) : swappedStores [.Tuple ts k p] e env = pure none := by
  cases e <;> first | rfl | cases h
theorem sole_tup {ts : List Expr} {e : Expr} {k l : Nat} {p : Pos} {env : PySem.Env} : swapsWithSole [.Tuple ts k p] e l env = pure false := by cases e <;> rfl
/-- name = a comprehension: do the stores swap -/
def compSw (sc : Scope) (x : Str) (py : Pos) : Expr → Option Bool
  | .ListComp elt gs scope pos => if sc.names.lookup x = some .cell then some false
    else if sc.names.lookup x = some .local ∧ (py.line == pos.line) = true ∧ (scope.names.any fun (n, k) => n == x && (k == .local || k == .cell)) = false then some true else none
  | .SetComp .. => none
  | .DictComp .. => none
  | _ => some false
theorem compSw_ok {sc : Scope} {env : PySem.Env} (h1 : env.scope = sc) (h2 : env.scope.kind = .function) {x : Str} {py : Pos} {e : Expr} {b : Bool} {l : Nat} (h : compSw sc x py e = some b) :
    swapsWith e (some (.Name x py)) l env = pure b ∧ (b = true → noComp e = false ∧ sc.names.lookup x = some .local) := by
  subst h1
  cases e with
  | ListComp elt gs scope pos =>
    simp only [compSw] at h
    split at h
    · rename_i hx
      cases h
      refine ⟨?_, fun z => nomatch z⟩
      have ky : env.kindOf x = some .cell := hx
      have hb : env.blockKind = .function := by unfold Env.blockKind; rw [h2]; rfl
      unfold swapsWith
      simp only [hb, ky]
      rfl
    · split at h
      · rename_i hx
        cases h
        exact ⟨sw_true h2 hx.1 hx.2.1 hx.2.2, fun _ => ⟨rfl, hx.1⟩⟩
      · cases h
  | SetComp => cases h
  | DictComp => cases h
  | _ => cases h; exact ⟨rfl, fun z => nomatch z⟩
mutual
def chkS (c : Ck) : S → Stmt → Bool
  | .asg i e, x => match x with | .Assign [.Name n p] e' _ => decide (c.N[i]? = some n) && stoB yesC c.sc n && chkE c e e' && (compSw c.sc n p e').isSome | _ => false
  | .asgT is e, x => match x with | .Assign [.Tuple es kk tp] e' _ => tgNs c.N yesC c.sc is es && chkE c e e' &&
      (match e' with | .Tuple vs _ _ => decide (swapR c.sc es vs = some none) | e' => !(isTup e')) | _ => false
  | .par is es, x => match x with
    | .Assign [.Tuple ts _ _] (.Tuple vs _ _) _ => chkEs c es vs && (match ts, is with
      | [.Name x _, .Name y _], [i, j] => decide (c.N[i]? = some x) && decide (c.N[j]? = some y) && decide (i ≠ j) && decide (c.sc.names.lookup x = some .local) && decide (c.sc.names.lookup y = some .local) && decide (vs.length = 2) && decide (swapR c.sc ts vs = some (some [x, y]))
      | [.Name x _, .Name y _, .Name z _], [i, j, l] => decide (c.N[i]? = some x) && decide (c.N[j]? = some y) && decide (c.N[l]? = some z) && decide (i ≠ j) && decide (i ≠ l) && decide (j ≠ l) && decide (c.sc.names.lookup x = some .local) && decide (c.sc.names.lookup y = some .local) && decide (c.sc.names.lookup z = some .local) && decide (vs.length = 3) && decide (swapR c.sc ts vs = some (some [x, y, z]))
      | _, _ => false)
    | _ => false
  | .set o i e, x => match x with | .Assign [.Subscript o' i' _] e' _ => chkE c e e' && chkE c o o' && chkE c i i' && noSlice i' | _ => false
  | .setF _ _ _, _ => false
  | .aug i op e, x => match x with | .AugAssign (.Name n _) op' e' _ => decide (op' = op) && (decide (op = .Add) || decide (op = .Sub)) && decide (c.N[i]? = some n) && stoB yesC c.sc n && chkE c e e' | _ => false
  | .expr e, x => match x with | .Expr e' _ => chkE c e e' && noComp e' | _ => false
  | .ret e, x => match x with | .Return (some e') _ => chkE c e e' | _ => false
  | .retN, x => match x with | .Return none _ => true | _ => false
  | .ife t a b, x => match x with | .If t' a' b' _ => chkE c t t' && chkSs c a a' && chkSs c b b' | _ => false
  | .for t it b, x => match x with | .For tg iter b' [] _ => chkIt c it tg iter && tgB c.N yesC c.sc t tg && noSetD iter && chkSs c b b' | _ => false
  | .whl t b, x => match x with | .While t' b' [] _ => chkE c t t' && chkSs c b b' | _ => false
  | .brk, x => match x with | .Break _ => true | _ => false
  | .cnt, x => match x with | .Continue _ => true | _ => false
  | .pass, x => match x with | .Pass _ => true | _ => false
  | .raise n fl as, x => match x with | .Raise (some (.Call (.Name n' _) (a' :: as') [] _)) none _ => decide (n' = n) && decide ((n, fl) ∈ c.rs) && globB c n && chkEs c as (a' :: as') | _ => false
  | .try b hs, x => match x with | .Try b' (h :: hs') [] [] _ => chkSs c b b' && chkHs c hs (h :: hs') | _ => false
  | .forS i g es op rhs body, x => match x with
    | .For (.Name n _) (.List elts _) [.If (.Compare (.Call (.Name gn _) [.Name y _] [] _) [op'] [rhs'] _) b [] _] [] _ => decide (n = y) && varB c i n && stoB yesC c.sc n && decide (gn = g) && decide (g ∈ c.hos) && globB c g && c.lam && decide (op' = op) && chkE c rhs rhs' && !(behindInMarks op rhs') && chkSs c body b && decide (elts.length ≤ 1000) && chkLs c es elts
    | _ => false
def chkSs (c : Ck) : Ss → List Stmt → Bool
  | .nil, xs => match xs with | [] => true | _ => false
  | .cons s ss, xs => match xs with | x :: r => chkS c s x && chkSs c ss r | _ => false
def chkHs (c : Ck) : Hs → List ExceptHandler → Bool
  | .nil, xs => match xs with | [] => true | _ => false
  | .cons cs slot su rest, xs => match xs with
    | .ExceptHandler (some (.Name x _)) n (b₀ :: suite) _ :: r => decide ((x, cs) ∈ c.hs) && globB c x && chkHs c rest r &&
      (match slot, n with
        | some i, some n => varB c i n && decide (c.sc.names.lookup n = some .local) && chkSu { c with cal := false, ex := some (i, n), hos := [], lam := false } su (b₀ :: suite)
        | none, none => chkSu { c with cal := false, hos := [], lam := false } su (b₀ :: suite)
        | _, _ => false)
    | _ => false
/-- a suite of one plain statement -/
def chkSu (c : Ck) : Ss → List Stmt → Bool
  | .nil, _ => false
  | .cons s ss, xs => (match ss with | .nil => true | _ => false) && (match s with
    | .ret e => match xs with | [.Return (some e') _] => chkE c e e' | _ => false
    | .asg i e => match xs with | [.Assign [.Name n p] e' _] => decide (c.N[i]? = some n) && decide (c.sc.names.lookup n = some .local) && chkE c e e' && noComp e' | _ => false
    | _ => false)
end
/-- where statements are checked -/
structure CtxS (C : Orc) (S : Sta) (k : Nat) (X : Cx) (c : Ck) : Prop where
  ct : Ctx C S k X c
  gs : GS S k X c.N c.sc
  calm : X.calm = true
  hcu : S.plain
  ex : c.ex = none
  hk : 2 ≤ k
  rs : ∀ p ∈ c.rs, ExcAt S p.1 p.2
  hs : ∀ p ∈ c.hs, ClsAt S p.1 p.2
  xf : XfAt S c.xf
  is : ∀ p ∈ c.is, IsAt S p.1 p.2
section
variable {C : Orc} {S : Sta} {k : Nat} {X : Cx} {c : Ck}
theorem CtxS.tr (h : CtxS C S k X c) {pn : List (Addr × Obj)} {xe : Value → Shared → Prop} (hp : PassesOwn (model X.prog X.w) X.A X.env xe) : CtxS C S k (X.tr pn xe) c where
  ct := ⟨⟨(h.gs.tr hp).toGX, h.ct.T, h.ct.ca, h.ct.cu, h.ct.fs, fun i n e => by (rw [h.ex] at e; cases e), fun i n e => by rw [h.ex] at e; cases e⟩, h.ct.ho, h.ct.lamc⟩
  gs := h.gs.tr hp
  calm := h.calm
  hcu := h.hcu
  ex := h.ex
  hk := h.hk
  rs := h.rs
  hs := h.hs
  xf := h.xf
  is := h.is
theorem GX.suite (g : GX S k X c.N c.sc) {a : Addr} {pn : List (Addr × Obj)} {e : Ex} {cls : Value} {d : Option Addr} {i : Nat} : GX (S.with e cls d i a) k (X.suite a pn) c.N c.sc where
  prog := g.prog
  w := g.w
  K := g.K
  mg := g.mg
  base := g.base
  nm := g.nm
  nd := g.nd
  sc := g.sc
  un := g.un
  gd := g.gd
  cls := g.cls
  cm := fun z => nomatch z
theorem GX.suite0 (g : GX S k X c.N c.sc) {a : Addr} {pn : List (Addr × Obj)} : GX S k (X.suite a pn) c.N c.sc where
  prog := g.prog
  w := g.w
  K := g.K
  mg := g.mg
  base := g.base
  nm := g.nm
  nd := g.nd
  sc := g.sc
  un := g.un
  gd := g.gd
  cls := g.cls
  cm := fun z => nomatch z
theorem chkSu_ok {ss : Ss} {xs : List Stmt} (ct : Ctx C S k X c) (h : chkSu c ss xs = true) : SSs S X (evSs C S.fs S.cur ss) xs := by
  cases ss with
  | nil => simp [chkSu] at h
  | cons s ss =>
    simp only [chkSu, Bool.and_eq_true] at h
    obtain ⟨h0, h⟩ := h
    cases ss with
    | cons => cases h0
    | nil =>
      have one : ∀ {x : Stmt}, SSt S X (evS C S.fs S.cur s) x → SSs S X (evSs C S.fs S.cur (.cons s .nil)) [x] := fun {x} q Wx tk => by
        refine pss_imp (ss_one q Wx tk) fun D σ H ⟨W, ρ, st, r, h⟩ => ⟨W, ρ, st, r, ?_⟩
        simp only [evSs] at h
        cases e : evS C S.fs S.cur s ρ st <;> rw [e] at h <;> exact h
      split at h
      · split at h
        · exact one (ss_ret (chkE_ok _ ct h).se fun _ _ => rfl)
        · cases h
      · split at h
        · simp only [Bool.and_eq_true, decide_eq_true_eq] at h
          obtain ⟨⟨⟨h1, h2⟩, h3⟩, h4⟩ := h
          exact one (ss_asg ct.g (cel := noC) (fun _ z => Bool.noConfusion z) h1 (by unfold stoB; rw [h2]) (chkE_ok _ ct h3).se (sw_plain h4) fun _ _ => rfl)
        · cases h
      · cases h
end
mutual
theorem chkS_ok {C : Orc} {S : Sta} {k : Nat} : ∀ (s : MM.S) {X : Cx} {c : Ck} {x : Stmt}, CtxS C S k X c → chkS c s x = true → SSt S X (evS C S.fs S.cur s) x
  | .asg i e, X, c, x, cs, h => by
    simp only [chkS] at h
    split at h
    · simp only [Bool.and_eq_true, decide_eq_true_eq] at h
      obtain ⟨⟨⟨h1, h2⟩, h3⟩, h4⟩ := h
      obtain ⟨b, hb⟩ := Option.isSome_iff_exists.mp h4
      have q := chkE_ok e cs.ct h3
      obtain ⟨q1, q2⟩ := compSw_ok cs.ct.g.sc cs.gs.kn (l := _) hb
      cases b with
      | false => exact ss_asg cs.ct.g cs.gs.cel h1 h2 q.se q1 fun _ _ => rfl
      | true => exact ss_asgC cs.ct.g h1 (q2 rfl).2 (q.sas (q2 rfl).1) q1 fun _ _ => rfl
    · cases h
  | .asgT is e, X, c, x, cs, h => by
    simp only [chkS] at h
    split at h
    · simp only [Bool.and_eq_true] at h
      obtain ⟨⟨h1, h2⟩, h3⟩ := h
      refine ss_asgT cs.ct.g cs.calm cs.gs.cel h1 (chkE_ok e cs.ct h2).se sole_tup ?_ fun _ _ => rfl
      split at h3
      · exact swapR_ok cs.ct.g.sc (by rw [← cs.ct.g.sc]; exact cs.gs.kn) (of_decide_eq_true h3)
      · exact swap_none (by simpa using h3)
    · cases h
  | .par is es, X, c, x, cs, h => by
    simp only [chkS] at h
    split at h
    · rename_i ts kt tp vs k2 p2 pp
      simp only [Bool.and_eq_true] at h
      obtain ⟨h1, h2⟩ := h
      have qa := (chkEs_ok es cs.ct h1).1
      have hk : c.sc.kind = .function := by rw [← cs.ct.g.sc]; exact cs.gs.kn
      split at h2
      · simp only [Bool.and_eq_true, decide_eq_true_eq] at h2
        obtain ⟨⟨⟨⟨⟨⟨a1, a2⟩, a3⟩, a4⟩, a5⟩, a6⟩, a7⟩ := h2
        match vs, qa, a6, a7 with
        | [_, _], qa, _, a7 => exact ss_par2 cs.ct.g cs.calm a1 a2 a3 a4 a5 qa (swapR_ok cs.ct.g.sc hk a7) fun _ _ => rfl
      · simp only [Bool.and_eq_true, decide_eq_true_eq] at h2
        obtain ⟨⟨⟨⟨⟨⟨⟨⟨⟨⟨a1, a2⟩, a3⟩, a4⟩, a5⟩, a6⟩, a7⟩, a8⟩, a9⟩, a10⟩, a11⟩ := h2
        match vs, qa, a10, a11 with
        | [_, _, _], qa, _, a11 => exact ss_par3 cs.ct.g cs.calm a1 a2 a3 a4 a5 a6 a7 a8 a9 qa (swapR_ok cs.ct.g.sc hk a11) fun _ _ => rfl
      · cases h2
    · cases h
  | .set o i e, X, c, x, cs, h => by
    simp only [chkS] at h
    split at h
    · simp only [Bool.and_eq_true] at h
      exact ss_set cs.ct.g (chkE_ok e cs.ct h.1.1.1).se (chkE_ok o cs.ct h.1.1.2).se (chkE_ok i cs.ct h.1.2).se h.2 fun _ _ => rfl
    · cases h
  | .setF o f e, X, c, x, cs, h => by simp [chkS] at h
  | .aug i op e, X, c, x, cs, h => by
    simp only [chkS] at h
    split at h
    · simp only [Bool.and_eq_true, Bool.or_eq_true, decide_eq_true_eq] at h
      obtain ⟨⟨⟨⟨h1, h2⟩, h3⟩, h4⟩, h5⟩ := h
      subst h1
      exact ss_aug cs.ct.g cs.gs.cel h2 h3 h4 (chkE_ok e cs.ct h5).se fun _ _ => rfl
    · cases h
  | .expr e, X, c, x, cs, h => by
    simp only [chkS] at h
    split at h
    · simp only [Bool.and_eq_true] at h
      exact ss_expr (chkE_ok e cs.ct h.1).se h.2 fun _ _ => rfl
    · cases h
  | .ret e, X, c, x, cs, h => by
    simp only [chkS] at h
    split at h
    · exact ss_ret (chkE_ok e cs.ct h).se fun _ _ => rfl
    · cases h
  | .retN, X, c, x, cs, h => by
    simp only [chkS] at h
    split at h
    · exact ss_retN fun _ _ => rfl
    · cases h
  | .ife t a b, X, c, x, cs, h => by
    simp only [chkS] at h
    split at h
    · simp only [Bool.and_eq_true] at h
      exact ss_if (ft := evT C S.fs S.cur t) (chkE_ok t cs.ct h.1.1).st (chkSs_ok a cs h.1.2) (chkSs_ok b cs h.2) (fun _ _ => rfl) fun _ _ => rfl
    · cases h
  | .for t it b, X, c, x, cs, h => by
    simp only [chkS] at h
    split at h
    · simp only [Bool.and_eq_true] at h
      obtain ⟨⟨⟨h1, h2⟩, h3⟩, h4⟩ := h
      exact ss_for cs.hcu cs.gs cs.calm (chkIt_ok it cs.ct h1) h2 (chkSs_ok b cs h4) h3 fun _ _ => rfl
    · cases h
  | .whl t b, X, c, x, cs, h => by
    simp only [chkS] at h
    split at h
    · simp only [Bool.and_eq_true] at h
      exact ss_whl cs.hcu cs.gs (ft := evT C S.fs S.cur t) (chkE_ok t cs.ct h.1).st (chkSs_ok b cs h.2) (fun _ _ => rfl) fun _ _ => rfl
    · cases h
  | .brk, X, c, x, cs, h => by
    simp only [chkS] at h
    split at h
    · exact ss_brk fun _ _ => rfl
    · cases h
  | .cnt, X, c, x, cs, h => by
    simp only [chkS] at h
    split at h
    · exact ss_cnt fun _ _ => rfl
    · cases h
  | .pass, X, c, x, cs, h => by
    simp only [chkS] at h
    split at h
    · exact ss_pass fun _ _ => rfl
    · cases h
  | .raise n fl as, X, c, x, cs, h => by
    simp only [chkS] at h
    split at h
    · simp only [Bool.and_eq_true, decide_eq_true_eq] at h
      obtain ⟨⟨⟨h1, h2⟩, h3⟩, h4⟩ := h
      subst h1
      obtain ⟨g1, g2⟩ := glob_gl cs.ct.g h3
      obtain ⟨q1, q2, _⟩ := chkEs_ok as cs.ct h4
      exact ss_raise cs.ct.g cs.hk cs.calm (cs.rs _ h2) g1 g2 q1 q2 fun _ _ => rfl
    · cases h
  | .try b hs, X, c, x, cs, h => by
    simp only [chkS] at h
    split at h
    · simp only [Bool.and_eq_true] at h
      exact ss_try cs.gs (fun pn xe hp => chkSs_ok b (cs.tr hp) h.1) (chkHs_ok hs cs h.2) (fun _ _ => rfl) cs.hcu
    · cases h
  | .forS i g es op rhs body, X, c, x, cs, h => by
    simp only [chkS] at h
    split at h
    · simp only [Bool.and_eq_true, decide_eq_true_eq, Bool.not_eq_true'] at h
      obtain ⟨⟨⟨⟨⟨⟨⟨⟨⟨⟨⟨⟨h1, h2⟩, h3⟩, h4⟩, h5⟩, h6⟩, h7⟩, h8⟩, h9⟩, h10⟩, h11⟩, h12⟩, h13⟩ := h
      subst h1 h4 h8
      obtain ⟨ts, q1, q2, q3, q4, q5⟩ := chkLs_ok cs.ct h13
      obtain ⟨g1, g2⟩ := glob_gl cs.ct.g h6
      simp only [varB, Bool.and_eq_true, decide_eq_true_eq, Bool.not_eq_true'] at h2
      obtain ⟨⟨⟨v1, v2⟩, v3⟩, v4⟩ := h2
      exact ss_forS cs.hcu cs.gs cs.ct cs.calm h7 h5 g1 g2 v1 h3 (by rw [cs.ct.g.sc]; exact visB_ok v2) v3 v4 q1 q2 q3 (by omega) q5 (chkE_ok rhs cs.ct h9).se h10 (chkSs_ok body cs h11) fun _ _ => rfl
    · cases h
theorem chkSs_ok {C : Orc} {S : Sta} {k : Nat} : ∀ (ss : Ss) {X : Cx} {c : Ck} {xs : List Stmt}, CtxS C S k X c → chkSs c ss xs = true → SSs S X (evSs C S.fs S.cur ss) xs
  | .nil, X, c, xs, cs, h => by
    simp only [chkSs] at h
    split at h
    · exact ss_nil fun _ _ => rfl
    · cases h
  | .cons s ss, X, c, xs, cs, h => by
    simp only [chkSs] at h
    split at h
    · simp only [Bool.and_eq_true] at h
      exact ss_cons cs.hcu (chkS_ok s cs h.1) (chkSs_ok ss cs h.2) fun _ _ => rfl
    · cases h
theorem chkHs_ok {C : Orc} {S : Sta} {k : Nat} : ∀ (hs : Hs) {X : Cx} {c : Ck} {xs : List ExceptHandler}, CtxS C S k X c → chkHs c hs xs = true → HsJ S X (fun e ρ st => evHs C S.fs hs e ρ st) xs
  | .nil, X, c, xs, cs, h => by
    simp only [chkHs] at h
    split at h
    · exact hs_nil fun _ _ _ => rfl
    · cases h
  | .cons cn slot su rest, X, c, xs, cs, h => by
    simp only [chkHs] at h
    split at h
    · simp only [Bool.and_eq_true, decide_eq_true_eq] at h
      obtain ⟨⟨⟨h1, h2⟩, h3⟩, h4⟩ := h
      obtain ⟨g1, g2⟩ := glob_gl cs.ct.g h2
      have hr := chkHs_ok rest cs h3
      split at h4
      · rename_i i n
        simp only [Bool.and_eq_true, decide_eq_true_eq] at h4
        obtain ⟨⟨a1, a2⟩, a3⟩ := h4
        have a1' := a1
        simp only [varB, Bool.and_eq_true, decide_eq_true_eq, Bool.not_eq_true'] at a1
        obtain ⟨⟨⟨b1, b2⟩, b3⟩, b4⟩ := a1
        refine hs_named cs.ct.g (cs.hs _ h1) g1 g2 b1 a2 (fsu := fun e => evSs C S.fs (some e) su) (fun e a oe cls d pn hz hv => ?_) hr fun _ _ _ => rfl
        have cx : Ctx C (S.with e cls d i a) k (X.suite a ((a, oe) :: pn)) { c with cal := false, ex := some (i, n), hos := [], lam := false } := {
          g := cs.ct.g.suite
          T := cs.ct.T
          ca := fun z => nomatch z
          cu := fun z => nomatch z
          fs := fun x hx => ⟨(cs.ct.fs x hx).ex⟩
          ho := fun _ z => nomatch z
          lamc := fun z => nomatch z
          exh := fun i' n' hq ff hff p pos => by
            cases hq
            exact se_exF cs.ct.g.K cs.xf hff hz hv (by rw [cs.ct.g.nm]; exact b1) (by rw [cs.ct.g.sc]; exact visB_ok b2) b3 b4 fun _ _ => rfl
          exi := fun i' n' hq q hqm hgi hgq hdq p p1 p2 pos => by
            cases hq
            exact se_exIs cs.ct.g.K cs.ct.g.mg.symm (cs.is q hqm) hz hv (by rw [cs.ct.g.nm]; exact b1) (by rw [cs.ct.g.sc]; exact visB_ok b2) b3 b4 hgi (by rw [cs.ct.g.mg]; exact cs.ct.T.isi) hgq hdq fun _ _ => rfl }
        exact chkSu_ok cx a3
      · refine hs_plain cs.ct.g (cs.hs _ h1) g1 g2 (fsu := evSs C S.fs none su) (fun a oe pn => ?_) hr fun _ _ _ => rfl
        have cx : Ctx C S k (X.suite a ((a, oe) :: pn)) { c with cal := false, hos := [], lam := false } := {
          g := cs.ct.g.suite0
          T := cs.ct.T
          ca := fun z => nomatch z
          cu := cs.ct.cu
          fs := fun x hx => ⟨(cs.ct.fs x hx).ex⟩
          ho := fun _ z => nomatch z
          lamc := fun z => nomatch z
          exh := fun i' n' hq => by rw [show ({ c with cal := false, hos := [], lam := false } : Ck).ex = c.ex from rfl, cs.ex] at hq; cases hq
          exi := fun i' n' hq => by rw [show ({ c with cal := false, hos := [], lam := false } : Ck).ex = c.ex from rfl, cs.ex] at hq; cases hq }
        have q := chkSu_ok cx h4
        have hc : S.cur = none := by unfold Sta.cur; rw [cs.hcu.1]; rfl
        rw [hc] at q
        exact q
      · cases h4
    · cases h
end
end MM
end

section
set_option Elab.async false
set_option linter.all false
set_option maxRecDepth 100000
set_option maxHeartbeats 4000000
/-! MMHo: a def that calls the lambda that it gets: try: work() .. -/
namespace MM
open PySem L2 PyProof.Rows
/-- a body that begins so -/
def RSL (S : Sta) (m : Lm) (Wx : WX) (f : Env → Store → SRes) : TS := fun D σ H => ∃ W ρ st, Rl { S with lm := some m } W ρ st σ H ∧ AftS S Wx D W H (f ρ st)
section
variable {S : Sta} {m : Lm} {k : Nat} {X : Cx} {N : List Str} {sc : Scope} {Wx : WX} {pos p p3 p4 : Pos}
theorem Rl.drop {W : List Addr} {ρ : Env} {st : Store} {σ : L2.St} {H : Hp} (r : Rl { S with lm := some m } W ρ st σ H) (hp : S.plain) : Rl S W ρ st σ H := Rl.mk0 hp r.so r.eo
theorem psl_cons (hp : S.plain) {fa fr f : Env → Store → SRes} {s : Stmt} {ss : List Stmt} (ha : PS X s (RSL S m Wx fa)) (hr : PSs X ss (RS S Wx fr)) (hf : ∀ ρ st, f ρ st = match fa ρ st with | .nxt ρ1 st1 => fr ρ1 st1 | r => r) : PSs X (s :: ss) (RSL S m Wx f) := by
  refine pss_imp (pss_cons ha hr) fun D σ H ⟨W, ρ, st, r, h⟩ => ?_
  rw [hf] at h
  refine ⟨W, ρ, st, r, ?_⟩
  cases e : fa ρ st with
  | nxt ρ1 st1 =>
    rw [e] at h
    intro W1 H1 σ1 x1 so1 eo1
    exact ⟨W1, ρ1, st1, Rl.mk0 hp so1 eo1, AftS.later h x1⟩
  | brk ρ1 st1 => rw [e] at h; exact h
  | cnt ρ1 st1 => rw [e] at h; exact h
  | ret d st1 => rw [e] at h; exact h
  | exc e1 ρ1 st1 => rw [e] at h; exact h
  | bad => rw [e] at h; exact h
theorem psl_try (gs : GS S k X N sc) (hp : S.plain) {fb f : Env → Store → SRes} {fh : Ex → Env → Store → SRes} {body : List Stmt} {h₀ : ExceptHandler} {hds : List ExceptHandler} (hb : ∀ (pn : List (Addr × Obj)) (xe : Value → Shared → Prop), SSs { S with lm := some m } (X.tr pn xe) fb body) (hh : HsJ S X fh (h₀ :: hds))
    (hf : ∀ ρ st, f ρ st = match fb ρ st with | .exc e ρ1 st1 => fh e ρ1 st1 | r => r) (tk : Takes X Wx) : PS X (.Try body (h₀ :: hds) [] [] pos) (RSL S m Wx f) := by
  obtain ⟨l, h1, h2⟩ := hh Wx
  refine ps_imp (ps_tryC gs.stk gs.fr (by rw [gs.nm]; exact gs.nd) tk (fun W pn xe tk' hp => hb pn xe W tk') h1) fun D σ H ⟨W, ρ, st, r, h⟩ => ?_
  rw [hf] at h
  refine ⟨W, ρ, st, r, ?_⟩
  cases e : fb ρ st with
  | nxt ρ1 st1 => rw [e] at h; exact h
  | brk ρ1 st1 => rw [e] at h; exact h
  | cnt ρ1 st1 => rw [e] at h; exact h
  | ret d st1 => rw [e] at h; exact h
  | exc e1 ρ1 st1 =>
    rw [e] at h
    intro W1 H1 σ1 cls dd x1 so1 eo1 q
    exact h2 D cls dd σ1 H1 e1 W1 ρ1 st1 (Rl.mk0 hp so1 eo1) q (AftS.later h x1)
  | bad => rw [e] at h; exact h.elim
end
/-- the form of such a def -/
def chkHi (c : Ck) : Ss → List Stmt → Bool
  | .cons (.try (.cons (.expr .callv) .nil) hs) rest, .Try [.Expr (.Call (.Name a _) [] [] _) _] (h :: hs') [] [] _ :: r => varB c 0 a && chkHs c hs (h :: hs') && chkSs c rest r
  | _, _ => false
theorem hi_body {C : Orc} {S : Sta} {k : Nat} {X : Cx} {c : Ck} {m : Lm} {body : Ss} {ss : List Stmt} (cs : CtxS C S k X c) (h : chkHi c body ss = true)
    (act : ∀ (a : Str) (pn : List (Addr × Obj)) (xe : Value → Shared → Prop) (p1 p2 : Pos), varB c 0 a = true → SE { S with lm := some m } (X.tr pn xe) (fun _ st => C S.fs Str.empty [] st) (.Call (.Name a p1) [] [] p2)) :
    ∀ Wx, Takes X Wx → PSs X ss (RSL S m Wx (evSs C S.fs none body)) := by
  intro Wx tk
  unfold chkHi at h
  split at h
  · rename_i hs rest a p1 p2 p3 h0 hs' p4 r
    simp only [Bool.and_eq_true] at h
    obtain ⟨⟨h1, h2⟩, h3⟩ := h
    have hc : S.cur = none := by unfold Sta.cur; rw [cs.hcu.1]; rfl
    have hr := chkSs_ok rest cs h3
    rw [hc] at hr
    have hh := chkHs_ok hs cs h2
    refine psl_cons cs.hcu (fa := evS C S.fs none (.try (.cons (.expr .callv) .nil) hs)) (psl_try cs.gs cs.hcu (fb := evSs C S.fs none (.cons (.expr .callv) .nil)) (fun pn xe Wx' tk' => ?_) hh (fun _ _ => rfl) tk) (hr Wx tk) fun _ _ => rfl
    have one := ss_one (ss_expr (pos := p3) (f := fun ρ st => SRes.of (C S.fs Str.empty [] st) ρ fun _ st1 => .nxt ρ (gc st st1 0)) (act a pn xe p1 p2 h1) rfl fun _ _ => rfl) Wx' tk'
    refine pss_imp one fun D σ H ⟨W, ρ, st, r, q⟩ => ⟨W, ρ, st, r, ?_⟩
    simp only [evSs, evS, evE] at q ⊢
    cases e : C S.fs Str.empty [] st <;> simp only [e, SRes.of] at q ⊢ <;> exact q
  · cases h
end MM
end

section
set_option Elab.async false
set_option linter.all false
set_option maxRecDepth 100000
set_option maxHeartbeats 4000000
/-! MMEnd: a def's promise from its check; all defs to a depth; the law's end. -/
namespace MM
open PySem L2 PyProof.Rows
/-- what stands, whatever the depth -/
structure Base (G : Gam) (xs : Excs) (c : Ck) : Prop where
  T : TbOk G c.tb
  rs : ∀ fs, ∀ p ∈ c.rs, ExcAt ⟨G, xs, fs, none, none⟩ p.1 p.2
  hs : ∀ fs, ∀ p ∈ c.hs, ClsAt ⟨G, xs, fs, none, none⟩ p.1 p.2
  xf : ∀ fs, XfAt ⟨G, xs, fs, none, none⟩ c.xf
  is : ∀ fs, ∀ p ∈ c.is, IsAt ⟨G, xs, fs, none, none⟩ p.1 p.2
  cls : ClsOk G
section
variable {G : Gam} {xs : Excs}
theorem env_start {W : List Addr} {H : Hp} {N : List Str} {ds : List D} {vs : List V} {a s : Nat} (r : Reps G.k W H ds vs) (ha : ds.length = a) (hs : s = N.length) : EnvOk G.k W H (ds.map some ++ List.replicate (s - a) none) (L2.start N vs) := by
  have hl := r.length
  refine ⟨by unfold L2.start; simp [← hl, ha, hs], fun i d h => ?_⟩
  by_cases hi : i < ds.length
  · rw [List.getElem?_append_left (by simpa using hi), List.getElem?_map] at h
    cases e : ds[i]? with
    | none => rw [e] at h; cases h
    | some d' =>
      rw [e] at h
      cases h
      obtain ⟨v, h1, h2⟩ := r.get e
      refine ⟨v, ?_, h2⟩
      unfold L2.start
      rw [List.getElem?_append_left (by rw [List.length_map, ← hl]; exact hi), List.getElem?_map, h1]
      rfl
  · rw [List.getElem?_append_right (by simpa using hi), List.getElem?_replicate] at h
    split at h <;> cases h
theorem retF_or (st st1 : Store) (d : D) : (∃ d' st', retF st st1 d = .ok d' st') ∨ retF st st1 d = .bad := by
  unfold retF
  split
  · exact .inl ⟨_, _, rfl⟩
  · exact .inl ⟨_, _, rfl⟩
/-- the name that a def's lambdas bear -/
def lamQ (x : Str) : Str := x ++ ".<locals>." ++ "<lambda>"
/-- where a def's lambdas are made -/
def LamAt (G : Gam) (x : Str) (fd : FuncData) : Prop := ∃ cd P, fd.code = .ref cd ∧ LamX.TabB G.base G.mg cd P ∧ (P, lamQ x) ∈ G.T ∧ ∀ p ∈ G.T, p.1 = P → p.2 = lamQ x
/-- one def -/
theorem fn_step {C : Orc} {fs : List Fr} {n : Nat} {x : Str} {st : Stmt} {f : Addr} {fd : FuncData} {ps : List Str} {c : Ck} {fn : Fn} (B : Base G xs c) (F : L2.Fun G.k.K x x st f fd) (Sc : FnScope c.N ps (defScope st)) (hsc : c.sc = defScope st) (hcal : c.cal = true) (hex : c.ex = none) (ar : fn.arity = ps.length) (sl : fn.slots = c.N.length) (hhi : fn.hi = false)
    (hchk : chkSs c fn.body (defBody st) = true) (ih : ∀ fs, ∀ y ∈ c.fs, DefAt ⟨G, xs, fs, none, none⟩ (n + 2) y (fun ρ => C ((ρ, none) :: fs) y))
    (hho : ∀ fs, ∀ gn ∈ c.hos, HoAt C ⟨G, xs, fs, none, none⟩ (n + 2) c gn) (hlam : c.lam = true → LamAt G x fd) :
    FnG G.P G.w G.k.K G.mg G.base (L2.CX G.P G.w) (n + 3) f fd ps (spD G xs fun ρ => runFn C ((ρ, none) :: fs) fn) := by
  have hlen : ∀ vs H Q E, spD G xs (fun ρ => runFn C ((ρ, none) :: fs) fn) vs H Q E → vs.length = ps.length := by
    rintro vs H Q E ⟨ρ, W, s, ds, so, rd, h⟩
    by_cases hl : ds.length = fn.arity
    · rw [← rd.length, hl, ar]
    · simp only [runFn, hhi, Bool.false_eq_true, if_false, if_neg hl] at h
  obtain ⟨oc, od, kV, doc, pm, an, cdv, ct, osl, rfl, lk, hcd⟩ := F.ex
  refine ⟨hlen, fun A outer s H args us vs Q E hr hg e0 hb r hsp => ?_⟩
  have hlv := hlen _ _ _ _ hsp
  refine LamX.run_ofS lk hcd Sc hr e0 hb r hlv fun hr' => ?_
  obtain ⟨ρ, W, st0, ds, so, rd, h⟩ := hsp
  have hl : ds.length = fn.arity := by rw [rd.length, hlv, ar]
  let S0 : Sta := ⟨G, xs, (ρ, none) :: fs, none, none⟩
  let X : Cx := cxOf (L2.CX G.P G.w) G.P G.w G.k.K G.mg G.base c.N x (defScope st) f cdv A outer s H E
  have gx : GX S0 (n + 2) X c.N c.sc := {
    prog := rfl
    w := rfl
    K := rfl
    mg := rfl
    base := rfl
    nm := rfl
    nd := Sc.nd
    sc := hsc.symm
    un := by have := hr'.un; show (A.deeper _).units + 128 < cLine; omega
    gd := hg
    cls := B.cls
    cm := fun _ => hr' }
  have gs : GS S0 (n + 2) X c.N c.sc := {
    toGX := gx
    ps := passes_of rfl
    cel := fun _ _ _ => rfl
    stk := rfl
    fr := rfl
    kn := Sc.kind }
  have cs : CtxS C S0 (n + 2) X c := {
    ct := ⟨⟨gx, B.T, fun _ => rfl, fun _ => ⟨rfl, rfl⟩, ih _, fun i nm e => by (rw [hex] at e; cases e), fun i nm e => by rw [hex] at e; cases e⟩, hho _, fun hl => by
      obtain ⟨cd, P, q1, q2, q3, q4⟩ := hlam hl
      exact ⟨cd, P, q1, q2, q3, q4⟩⟩
    gs := gs
    calm := rfl
    hcu := ⟨rfl, rfl⟩
    ex := hex
    hk := by omega
    rs := B.rs _
    hs := B.hs _
    xf := B.xf _
    is := B.is _ }
  have tk : Takes X (fun cls d _ H => E cls d H) := takes_of rfl rfl rfl rfl
  refine ⟨_, pss_lock (chkSs_ok fn.body cs hchk _ tk), W, ds.map some ++ List.replicate (fn.slots - fn.arity) none, st0, Rl.mk0 ⟨rfl, rfl⟩ so (env_start rd hl sl), ?_⟩
  have hst : startE fn ds = ds.map some ++ List.replicate (fn.slots - fn.arity) none := by simp [startE, hhi]
  simp only [runFn, hhi, Bool.false_eq_true, if_false, if_pos hl, hst] at h
  show AftS S0 _ _ W H (evSs C ((ρ, none) :: fs) none fn.body (ds.map some ++ List.replicate (fn.slots - fn.arity) none) st0)
  cases ev : evSs C ((ρ, none) :: fs) none fn.body (ds.map some ++ List.replicate (fn.slots - fn.arity) none) st0 with
  | nxt ρ' st' =>
    rw [ev] at h
    intro W' H' σ' x' so' eo'
    obtain ⟨W2, x2, so2, _⟩ := gc_ok (l := 0) so x' so'
    exact h W2 H' .non x2 so2 .non
  | ret d st' =>
    rw [ev] at h
    intro W' H' v x' so' rv
    refine ret_ok so x' so' rv ?_
    rcases retF_or st0 st' d with ⟨d', st2, e⟩ | e
    · simp only [e] at h ⊢; exact h
    · simp only [e] at h
  | exc e ρ' st' =>
    rw [ev] at h
    intro W' H' σ' cls dd x' so' eo' q
    obtain ⟨W2, x2, so2, g1, _⟩ := gc_ok (l := exLim e) so x' so'
    exact h W2 H' cls dd x2 so2 (exOk_gc g1 q)
  | brk ρ' st' => rw [ev] at h; exact h.elim
  | cnt ρ' st' => rw [ev] at h; exact h.elim
  | bad => rw [ev] at h; exact h.elim
end
/-- a def that calls the lambda that it gets -/
theorem ho_step {p : Str → Option Fn} {fs : List Fr} {n : Nat} {gn : Str} {st : Stmt} {ga : Addr} {fd : FuncData} {a : Str} {c cc : Ck} {fn : Fn} (B : Base G xs c) (F : L2.Fun G.k.K gn gn st ga fd) (hmg : G.mg gn = some (.ref ga)) (hb : Binds G.k.K fd [a] []) (Sc : FnScope c.N [a] (defScope st)) (hsc : c.sc = defScope st) (hcal : c.cal = true) (hex : c.ex = none) (hhos : c.hos = []) (hlm : c.lam = false)
    (ar : fn.arity = 1) (sl : fn.slots = c.N.length) (hhi : fn.hi = true) (hp : p gn = some fn) (hgn : gn ≠ Str.empty)
    (hchk : chkHi c fn.body (defBody st) = true) (ih1 : ∀ fs, ∀ y ∈ c.fs, DefAt ⟨G, xs, fs, none, none⟩ (n + 3) y (fun ρ => callN p (n + 1) ((ρ, none) :: fs) y)) (hfs : cc.fs = c.fs) (htb : cc.tb = c.tb)
    (ih0 : ∀ fs, ∀ y ∈ c.fs, DefAt ⟨G, xs, fs, none, none⟩ (n + 2) y (fun ρ => callN p n ((ρ, none) :: fs) y)) :
    HoAt (callN p (n + 2)) ⟨G, xs, fs, none, none⟩ (n + 4) cc gn := by
  have kp := F.kp
  obtain ⟨oc, od, kV, doc, pm0, an, cdv, ct0, osl, rfl, lk, hcd⟩ := F.ex
  refine ⟨callN p n, n + 2, ga, hmg, kp, ?_⟩
  intro X sc gx hc b body lsc f c' pm ct L hbd pins s σ H Q W ρ st0 I hf hcc so eo hout
  have hr : Room (n + 4) X.A := gx.cm hc
  have e0 : Env0 G.P G.w G.k.K G.mg G.base X.A X.stack s H := by
    have := I.env0
    rw [gx.prog, gx.w, ← gx.K, gx.mg, gx.base] at this
    exact this
  rw [gx.prog, gx.w]
  refine LamX.run_ofS (k := n + 3) (us := [.ref f]) (vs := [.ref f]) lk hcd Sc hr e0 (hb s [.ref f] (by have := I.kIn; rw [← gx.K] at this; exact this) rfl) (.cons rfl .nil) rfl fun hr' => ?_
  let S0 : Sta := ⟨G, xs, (ρ, some b) :: fs, none, none⟩
  let Z : Cx := cxOf (L2.CX G.P G.w) G.P G.w G.k.K G.mg G.base c.N gn (defScope st) ga cdv X.A X.stack s H (fun _ _ _ => False)
  let m : Lm := ⟨0, f, c', X.env.qual ++ "<lambda>", LamO (X.env.qual ++ "<lambda>") noA body lsc X.env.cells pm c' ct f, ρ, σ⟩
  have gz : GX S0 (n + 3) Z c.N c.sc := {
    prog := rfl
    w := rfl
    K := rfl
    mg := rfl
    base := rfl
    nm := rfl
    nd := Sc.nd
    sc := hsc.symm
    un := by have := hr'.un; show (X.A.deeper _).units + 128 < cLine; omega
    gd := gx.gd
    cls := B.cls
    cm := fun _ => hr' }
  have gs : GS S0 (n + 3) Z c.N c.sc := {
    toGX := gz
    ps := passes_of rfl
    cel := fun _ _ _ => rfl
    stk := rfl
    fr := rfl
    kn := Sc.kind }
  have cs : CtxS (callN p (n + 1)) S0 (n + 3) Z c := {
    ct := ⟨⟨gz, B.T, fun _ => rfl, fun _ => ⟨rfl, rfl⟩, ih1 _, fun i nm e => by (rw [hex] at e; cases e), fun i nm e => by rw [hex] at e; cases e⟩, (fun g hg => by rw [hhos] at hg; cases hg), fun z => by rw [hlm] at z; cases z⟩
    gs := gs
    calm := rfl
    hcu := ⟨rfl, rfl⟩
    ex := hex
    hk := by omega
    rs := B.rs _
    hs := B.hs _
    xf := B.xf _
    is := B.is _ }
  have tk : Takes Z (fun _ _ _ _ => False) := takes_n
  have act : ∀ (a : Str) (pn : List (Addr × Obj)) (xe : Value → Shared → Prop) (p1 p2 : Pos), varB c 0 a = true → SE { S0 with lm := some m } (Z.tr pn xe) (fun _ st => callN p (n + 1) S0.fs Str.empty [] st) (.Call (.Name a p1) [] [] p2) := by
    intro a pn xe p1 p2 hv
    simp only [varB, Bool.and_eq_true, decide_eq_true_eq, Bool.not_eq_true'] at hv
    obtain ⟨⟨⟨v1, v2⟩, v3⟩, v4⟩ := hv
    have q := act_ok (Sl := ⟨G, xs, fs, none, none⟩) (S1 := { S0 with lm := some m }) (fl := evE (callN p n) fs none b) (ρc := ρ) (Ng := c.N) (qg := gn) (sg := defScope st) (g := ga) (cdg := cdv) (Eg := fun _ _ _ => False) (k := n + 2) (i := 0) (a := a) (p1 := p1) (p2 := p2) I L gx.gd rfl hr' (fun A outer s' H' E' hrl hgl => ?_) rfl rfl ⟨rfl, rfl⟩ rfl v1 (by rw [← hsc]; exact visB_ok v2) v3 v4 pn xe
    · have eZ : gotCx X c.N gn (defScope st) ga cdv s H (fun _ _ _ => False) = Z := by
        show cxOf (L2.CX X.prog X.w) X.prog X.w X.K X.mg X.base c.N gn (defScope st) ga cdv X.A X.stack s H (fun _ _ _ => False) = _
        rw [gx.prog, gx.w, ← gx.K, gx.mg, gx.base]
      rw [eZ] at q
      have eF : (fun (_ : Env) (st : Store) => callN p (n + 1) S0.fs Str.empty [] st) = fun _ st => gcr st (evE (callN p n) fs none b ρ st) := by
        funext _ st
        have e : callN p (n + 1) S0.fs Str.empty [] st = runLam (callN p n) ((ρ, some b) :: fs) st := by
          simp only [callN, if_true]
          rfl
        rw [e]
        simp only [runLam, gcr]
        all_goals (cases evE (callN p n) fs none b ρ st <;> rfl)
      rw [eF]
      exact q
    · refine hbd _ ⟨?_, by rw [show (cc.lamCk lsc).tb = cc.tb from rfl, htb]; exact B.T, fun _ => rfl, fun _ => ⟨rfl, rfl⟩, fun x hx => ih0 fs x (by rw [← hfs]; exact hx), fun i nm e => by (cases e), fun i nm e => by cases e⟩
      exact {
        prog := gx.prog
        w := gx.w
        K := gx.K
        mg := gx.mg
        base := gx.base
        nm := gx.nm
        nd := gx.nd
        sc := rfl
        un := by have := hrl.un; show (A.deeper _).units + 128 < cLine; omega
        gd := hgl
        cls := B.cls
        cm := fun _ => hrl }
  refine ⟨_, pss_lock (hi_body cs hchk act _ tk), W, startE fn [], st0, ⟨so, ?_, (fun e cls dd i a h => nomatch h), fun m' hm => ?_⟩, ?_⟩
  · refine ⟨?_, fun i d hd => ?_⟩
    · have hl1 : 1 ≤ c.N.length := by
        have h1 : c.N.take 1 = [a] := Sc.pre
        cases hN : c.N with
        | nil => rw [hN] at h1; cases h1
        | cons y r => simp
      unfold L2.start startE
      simp [hhi, ar, sl]
    · unfold startE at hd
      simp only [hhi, if_true, List.map_nil] at hd
      cases i with
      | zero => simp at hd
      | succ i =>
        rw [List.cons_append, List.getElem?_cons_succ, List.nil_append, List.getElem?_replicate] at hd
        split at hd <;> cases hd
  · cases hm
    exact ⟨rfl, hcc, ⟨hf, rfl⟩, eo⟩
  · have ev0 : callN p (n + 2) ((ρ, some b) :: fs) gn [] st0 = runFn (callN p (n + 1)) ((ρ, some b) :: fs) fn [] st0 := by
      simp only [callN, if_neg hgn, hp]
    have hout : Out G W H (noExc (callN p (n + 2) ((ρ, some b) :: fs) gn [] st0)) Q := hout
    rw [ev0] at hout
    simp only [runFn, hhi, if_true, List.length_nil, ar, Nat.zero_add] at hout
    show AftS S0 _ _ W H (evSs (callN p (n + 1)) ((ρ, some b) :: fs) none fn.body (startE fn []) st0)
    cases ev : evSs (callN p (n + 1)) ((ρ, some b) :: fs) none fn.body (startE fn []) st0 with
    | nxt ρ' st' =>
      rw [ev] at hout
      intro W' H' σ' x' so' eo'
      obtain ⟨W2, x2, so2, _⟩ := gc_ok (l := 0) so x' so'
      exact hout W2 H' .non x2 so2 .non
    | ret d st' =>
      rw [ev] at hout
      intro W' H' v x' so' rv
      refine ret_ok so x' so' rv ?_
      rcases retF_or st0 st' d with ⟨d', st2, e⟩ | e
      · simp only [e, noExc] at hout ⊢; exact hout
      · simp only [e, noExc] at hout; exact hout.elim
    | exc e ρ' st' => rw [ev] at hout; exact hout.elim
    | brk ρ' st' => rw [ev] at hout; exact hout.elim
    | cnt ρ' st' => rw [ev] at hout; exact hout.elim
    | bad => rw [ev] at hout; exact hout.elim
/-! ### the program's defs -/
/-- a def: its name, its text, its names by slot, its parameters, its form; whether it makes lambdas, whether it gets one -/
structure Df where
  x : Str
  st : Stmt
  N : List Str
  ps : List Str
  body : Ss
  lam : Bool := false
  hi : Bool := false
structure Pg where
  tb : Tb
  rs : List (Str × List Str)
  hs : List (Str × List Str)
  xf : List Str
  is : List (Str × List Str)
  defs : List Df
def Df.fn (d : Df) : Fn := ⟨d.ps.length, d.N.length, d.body, d.hi⟩
def Pg.fn (p : Pg) : Str → Option Fn := progOf (p.defs.map fun d => (d.x, d.fn))
theorem Pg.fn_find (p : Pg) (x : Str) : p.fn x = (p.defs.find? fun d => decide (d.x = x)).map Df.fn := by
  unfold Pg.fn progOf
  induction p.defs with
  | nil => rfl
  | cons d r ih =>
    simp only [List.map_cons, List.find?_cons]
    cases decide (d.x = x) with
    | true => rfl
    | false => exact ih
def Pg.lo (p : Pg) : List Str := (p.defs.filter fun d => !d.hi).map (·.x)
def Pg.ho (p : Pg) : List Str := (p.defs.filter (·.hi)).map (·.x)
def Pg.ck (p : Pg) (d : Df) : Ck := ⟨p.tb, p.rs, p.hs, p.lo, p.xf, p.is, d.N, defScope d.st, true, none, if d.lam && !d.hi then p.ho else [], d.lam && !d.hi⟩
def scopeB (N ps : List Str) (sc : Scope) : Bool := (match sc.kind with | .function => true | _ => false) && !sc.isCoroutine && !sc.isGenerator && decide N.Nodup && decide (N.take ps.length = ps) &&
  (ps.all fun x => locB sc x) && (sc.names.all fun y => match y.2 with | .free => false | _ => true)
theorem scopeB_ok {N ps : List Str} {sc : Scope} (h : scopeB N ps sc = true) : FnScope N ps sc := by
  simp only [scopeB, Bool.and_eq_true, Bool.not_eq_true', decide_eq_true_eq, List.all_eq_true] at h
  obtain ⟨⟨⟨⟨⟨⟨h1, h2⟩, h3⟩, h4⟩, h5⟩, h6⟩, h7⟩ := h
  refine ⟨?_, h2, h3, h4, h5, fun x hx => locB_ok (h6 x hx), fun y hy e => ?_⟩
  · split at h1
    · assumption
    · cases h1
  · have := h7 y hy
    rw [e] at this
    cases this
def Pg.ok (p : Pg) (d : Df) : Bool := decide (d.x ≠ Str.empty) && scopeB d.N d.ps (defScope d.st) && (if d.hi then decide (d.ps.length = 1) && chkHi (p.ck d) d.body (defBody d.st) else chkSs (p.ck d) d.body (defBody d.st))
/-- a def as the top has written it -/
structure DefK (G : Gam) (d : Df) : Prop where
  ex : ∃ f fd, L2.Fun G.k.K d.x d.x d.st f fd ∧ G.mg d.x = some (.ref f) ∧ Binds G.k.K fd d.ps [] ∧ ((d.lam && !d.hi) = true → LamAt G d.x fd)
section
variable {G : Gam} {xs : Excs}
theorem df_uniq : ∀ {l : List Df}, (l.map (·.x)).Nodup → ∀ {d e : Df}, d ∈ l → e ∈ l → e.x = d.x → e = d
  | y :: r, nd, d, e, hd, he, h => by
    rw [List.map_cons, List.nodup_cons] at nd
    rcases List.mem_cons.mp hd with z | z <;> rcases List.mem_cons.mp he with w | w
    · rw [z, w]
    · exact absurd (List.mem_map.mpr ⟨e, w, by rw [h, z]⟩) nd.1
    · exact absurd (List.mem_map.mpr ⟨d, z, by rw [← h, w]⟩) nd.1
    · exact df_uniq nd.2 z w h
theorem fn_of {p : Pg} (nd : (p.defs.map (·.x)).Nodup) {d : Df} (hd : d ∈ p.defs) : p.fn d.x = some d.fn := by
  rw [Pg.fn_find]
  cases e : p.defs.find? fun e => decide (e.x = d.x) with
  | none =>
    have := List.find?_eq_none.mp e d hd
    simp at this
  | some e' =>
    have h1 := List.find?_some e
    have h2 := List.mem_of_find?_eq_some e
    have h1 : e'.x = d.x := by simpa using h1
    have : e' = d := df_uniq nd hd h2 h1
    rw [this]; rfl
theorem all_defs {p : Pg} (nd : (p.defs.map (·.x)).Nodup) (B : ∀ d ∈ p.defs, Base G xs (p.ck d)) (hF : ∀ d ∈ p.defs, DefK G d) (hok : ∀ d ∈ p.defs, p.ok d = true) : ∀ (n : Nat),
    (∀ (fs : List Fr), ∀ x ∈ p.lo, DefAt ⟨G, xs, fs, none, none⟩ (n + 2) x (fun ρ => callN p.fn n ((ρ, none) :: fs) x)) ∧
    (∀ (fs : List Fr) (d : Df), ∀ gn ∈ p.ho, HoAt (callN p.fn n) ⟨G, xs, fs, none, none⟩ (n + 2) (p.ck d) gn) := by
  intro n
  induction n using Nat.strongRecOn with
  | ind n ih =>
    constructor
    · intro fs x hx
      obtain ⟨d, hd, rfl⟩ := List.mem_map.mp hx
      obtain ⟨hd, hh⟩ := List.mem_filter.mp hd
      have hh : d.hi = false := by simpa using hh
      obtain ⟨f, fd, F, h1, h2, h3⟩ := (hF d hd).ex
      match n, ih with
      | 0, _ =>
        refine ⟨f, fd, d.ps, h1, F.kp, h2, ?_, ?_⟩
        · rintro vs H Q E ⟨ρ, W, s, ds, so, rd, h⟩
          exact h.elim
        · rintro A outer s H args us vs Q E hr hg e0 hb r ⟨ρ, W, s, ds, so, rd, h⟩
          exact h.elim
      | n + 1, ih =>
        have ho := hok d hd
        simp only [Pg.ok, Bool.and_eq_true, decide_eq_true_eq, hh, Bool.false_eq_true, if_false] at ho
        refine ⟨f, fd, d.ps, h1, F.kp, h2, ?_⟩
        have e : (fun ρ => callN p.fn (n + 1) ((ρ, none) :: fs) d.x) = fun ρ => runFn (callN p.fn n) ((ρ, none) :: fs) d.fn := by
          funext ρ ds st
          simp only [callN, fn_of nd hd, if_neg ho.1.1]
        rw [e]
        exact fn_step (c := p.ck d) (B d hd) F (scopeB_ok ho.1.2) rfl rfl rfl rfl rfl hh ho.2 (fun fs y hy => (ih n (Nat.lt_succ_self n)).1 fs y hy)
          (fun fs gn hgn => (ih n (Nat.lt_succ_self n)).2 fs d gn (by
            have hgn : gn ∈ (if d.lam && !d.hi then p.ho else []) := hgn
            split at hgn
            · exact hgn
            · cases hgn)) h3
    · intro fs dd gn hgn
      obtain ⟨d, hd, rfl⟩ := List.mem_map.mp hgn
      obtain ⟨hd, hh⟩ := List.mem_filter.mp hd
      obtain ⟨f, fd, F, h1, h2, h3⟩ := (hF d hd).ex
      have ho := hok d hd
      simp only [Pg.ok, Bool.and_eq_true, decide_eq_true_eq, hh, if_true] at ho
      obtain ⟨⟨o1, o2⟩, o3, o4⟩ := ho
      have bad : ∀ m, m < 2 → ∀ (frs : List Fr) st, noExc (callN p.fn m frs d.x [] st) = .bad := by
        intro m hm frs st
        match m, hm with
        | 0, _ => rfl
        | 1, _ =>
          simp only [callN, fn_of nd hd, if_neg o1]
          unfold chkHi at o4
          split at o4
          · rename_i hs rest a p1 p2 p3 h0 hs' p4 r e1 e2
            have ev : ∀ env, evSs (fun _ _ _ _ => Res.bad) frs none d.body env st = .bad := fun env => by
              rw [e1]
              simp only [evSs, evS, evE, SRes.of]
            simp [runFn, Df.fn, ev, noExc]
          · cases o4
      match n, ih with
      | 0, _ => exact ⟨callN p.fn 0, 0, f, h1, F.kp, fun X sc gx hc b body lsc f' c' pm ct L hbd pins s σ H Q W ρ st I hf hcc so eo hout => by rw [bad 0 (by omega)] at hout; exact hout.elim⟩
      | 1, _ => exact ⟨callN p.fn 0, 0, f, h1, F.kp, fun X sc gx hc b body lsc f' c' pm ct L hbd pins s σ H Q W ρ st I hf hcc so eo hout => by rw [bad 1 (by omega)] at hout; exact hout.elim⟩
      | n + 2, ih =>
        match hps : d.ps, o3 with
        | [a], _ =>
          rw [hps] at h2 o2
          exact ho_step (c := p.ck d) (cc := p.ck dd) (fn := d.fn) (a := a) (B d hd) F h1 h2 (scopeB_ok o2) rfl rfl rfl (by simp [Pg.ck, hh]) (by simp [Pg.ck, hh]) (by simp [Df.fn, hps]) rfl hh (fn_of nd hd) o1 o4 (fun fs y hy => (ih (n + 1) (by omega)).1 fs y hy) rfl rfl fun fs y hy => (ih n (by omega)).1 fs y hy
end
/-! ### the law's end -/
/-- no list among the module's own objects -/
def noListB (K : PySem.W.Frag) : Bool := K.all fun p => match p.2.cls with | .type n => !(n == "list") | _ => true
theorem look_mem : ∀ {K : List (Addr × Obj)} {a : Addr} {o : Obj}, K.lookup a = some o → (a, o) ∈ K
  | [], _, _, e => by simp at e
  | (b, x) :: r, a, o, e => by
    simp only [List.lookup] at e
    split at e
    · rename_i q
      cases e
      rw [beq_iff_eq.mp q]
      exact List.mem_cons_self
    · exact List.mem_cons_of_mem _ (look_mem e)
theorem noListB_ok {K : PySem.W.Frag} (h : noListB K = true) {a : Addr} {o : Obj} (e : K.lookup a = some o) : o.cls ≠ .type "list" := by
  intro z
  have := List.all_eq_true.mp h _ (look_mem e)
  simp only [z] at this
  cases this
/-- the tables of the written part in which code objects are noted, all empty -/
structure TabsIn (K : PySem.W.Frag) (mg : Str → Option Value) (h : Heap) (cs : List (Addr × Addr)) : Prop where
  emp : ∀ p ∈ cs, h.get? p.2 = some { cls := .none, data := .fields #[] }
  out : ∀ p ∈ cs, K.lookup p.2 = none
  cod : ∀ p ∈ cs, PySem.W.CodeHd h p.1 p.2
  bm : ∃ (bm : Addr) (ob : Obj), mg "__builtins__" = some (.ref bm) ∧ bm ≠ builtinsNs ∧ h.get? bm = some ob ∧ ob.cls = .type "module" ∧ ob.dict = some builtinsNs ∧ ob.data = .plain
/-- the heap that the law begins with: the script, the tables -/
def H0 (a : Addr) (ob : Obj) (ns : List Int) (cs : List (Addr × Addr)) : Hp := fun b => if b = a then some (.frz ob (.lst (ns.map V.int))) else if b ∈ cs.map (·.2) then some (.tbl #[]) else none
/-- the call of the law's def at the script -/
theorem law_run {P : Program} {w : World} {K : PySem.W.Frag} {mg mb : Str → Option Value} {k : Nat} {fa a : Addr} {cs : List (Addr × Addr)} {fd : FuncData} {x : Str} {sp : Heap → Sp} {s₁ : Shared} {vs : List Value} {ns : List Int}
    (KX : K.In s₁.heap) (hns : s₁.heap.Ns mainGlobals mg) (hb : s₁.heap.Ns builtinsNs mb) (hbb : ∀ x : Str, x ≠ "__name__" → mb x = bootBuiltins x) (hlim : s₁.heap.NoLimit) (hg : s₁.gens = #[]) (hno : noListB K = true) (hT : TabsIn K mg s₁.heap cs)
    (ha : s₁.heap.get? a = some { cls := .type "list", data := .seq vs.toArray }) (hi : IntsAre vs ns) (hl : ns.length ≤ sizeLine) (hr : Room k callerA)
    (F : ∀ base : Heap, K.In base → base.Ns mainGlobals mg → (∀ p ∈ cs, LamX.TabB base mg p.1 p.2) → FnG P w K mg base (L2.CX P w) k fa fd [x] (sp base)) (hbind : Binds K fd [x] [])
    (hsp : ∀ (base : Heap) (H : Hp) (o : Obj), (∀ p ∈ cs, H p.2 = some (.tbl #[])) → H a = some (.frz o (.lst (ns.map V.int))) → sp base [.ref a] H (fun v _ => v = .bl true) fun _ _ _ => False) :
    codeAny (model P w) callerA (.call (.ref fa) ⟨[.ref a], []⟩) (fun r s' => r = .ok (.ret (.bool true)) ∧ OldK s₁.heap s'.heap ∧ s'.os = s₁.os ∧ AllBare s'.gens) s₁ := by
  have rv := L2.vals_ints hi
  have hKa : K.lookup a = none := by
    cases e : K.lookup a with
    | none => rfl
    | some o =>
      have h1 := KX a o e
      rw [ha] at h1
      cases h1
      exact absurd rfl (noListB_ok hno e)
  let ob : Obj := { cls := .type "list", data := .seq vs.toArray }
  let H : Hp := H0 a ob ns cs
  have aT : a ∉ cs.map (·.2) := fun hm => by
    obtain ⟨p, hp, e⟩ := List.mem_map.mp hm
    have h1 := hT.emp p hp
    rw [e, ha] at h1
    cases h1
  have Hat : H a = some (.frz ob (.lst (ns.map V.int))) := if_pos rfl
  have Htb : ∀ p ∈ cs, H p.2 = some (.tbl #[]) := fun p hp => by
    show H0 a ob ns cs p.2 = _
    unfold H0
    rw [if_neg fun z => aT (by rw [← z]; exact List.mem_map.mpr ⟨p, hp, rfl⟩), if_pos (List.mem_map.mpr ⟨p, hp, rfl⟩)]
  have Hne : ∀ {b : Addr}, b ≠ a → b ∉ cs.map (·.2) → H b = none := fun {b} h1 h2 => by
    show H0 a ob ns cs b = _
    unfold H0
    rw [if_neg h1, if_neg h2]
  have tabAt : ∀ {b : Addr}, b ∈ cs.map (·.2) → s₁.heap.get? b = some { cls := .none, data := .fields #[] } := fun {b} hm => by
    obtain ⟨p, hp, e⟩ := List.mem_map.mp hm
    rw [← e]; exact hT.emp p hp
  have hok : HOk P w H s₁.heap := fun b u z => by
    by_cases hb : b = a
    · subst hb
      rw [Hat] at z
      cases z
      exact ⟨ha, by rw [List.length_map]; exact hl, vs, _, rv, ha⟩
    · by_cases hm : b ∈ cs.map (·.2)
      · obtain ⟨p, hp, e⟩ := List.mem_map.mp hm
        rw [← e, Htb p hp] at z
        cases z
        exact tabAt hm
      · rw [Hne hb hm] at z; cases z
  have keep : ∀ {b : Addr} {o : Obj}, s₁.heap.get? b = some o → b ≠ a → b ∉ cs.map (·.2) → (hidT s₁.heap H).get? b = some o := fun e n m => hidT_get e (Hne n m)
  have dictK : ∀ {b : Addr} {o : Obj}, s₁.heap.get? b = some o → (∀ vs n, o.data ≠ .seq vs n) → (o.data ≠ .fields #[]) → (hidT s₁.heap H).get? b = some o := fun {b o} e h1 h2 => by
    refine keep e (fun z => ?_) fun z => ?_
    · rw [z, ha] at e; cases e; exact h1 _ _ rfl
    · rw [tabAt z] at e; cases e; exact h2 rfl
  have nsK : ∀ {b : Addr} {m : Str → Option Value}, s₁.heap.Ns b m → (hidT s₁.heap H).Ns b m := by
    rintro b m ⟨o, es, ep, e, d, r⟩
    have d : o.data = Data.dict es ep := d
    exact ⟨o, es, ep, dictK e (fun _ _ z => by rw [d] at z; cases z) (fun z => by rw [d] at z; cases z), d, r⟩
  have hKb : K.In (hidT s₁.heap H) := fun b o e => keep (KX b o e) (fun z => by subst z; rw [hKa] at e; cases e) fun z => by
    obtain ⟨p, hp, ep⟩ := List.mem_map.mp z
    rw [← ep, hT.out p hp] at e; cases e
  have hM : L2.Mod K mg (hidT s₁.heap H) := ⟨hKb, nsK hns, ⟨mb, nsK hb, hbb⟩, by obtain ⟨mc, h1, h2⟩ := hlim; exact ⟨mc, nsK h1, h2⟩⟩
  have TB : ∀ p ∈ cs, LamX.TabB (hidT s₁.heap H) mg p.1 p.2 := fun p hp => by
    refine ⟨?_, ?_, fun z => ?_⟩
    · obtain ⟨o, us, file, tf, flags, tg, inF, text, tt, e1, r1, r2, r3, rest⟩ := hT.cod p hp
      refine ⟨o, us, file, tf, flags, tg, inF, text, tt, dictK e1 (fun _ _ z => by rw [r2] at z; cases z) (fun z => ?_), r1, r2, r3, rest⟩
      rw [r2] at z
      cases z
      simp at r3
    · obtain ⟨bm, om, b1, b2, b3, b4, b5, b6⟩ := hT.bm
      refine ⟨bm, om, b1, b2, fun z => ?_, fun z => ?_, dictK b3 (fun _ _ z => by rw [b6] at z; cases z) (fun z => by rw [b6] at z; cases z), b4, b5, b6⟩
      · obtain ⟨o, es, ep, e, d, _⟩ := hns
        rw [z, e] at b3
        cases b3
        rw [d] at b6
        cases b6
      · rw [z, hT.emp p hp] at b3
        cases b3
        cases b6
    · obtain ⟨o, es, ep, e, d, _⟩ := hns
      rw [z, hT.emp p hp] at e
      cases e
      cases d
  have e0 : Env0 P w K mg (hidT s₁.heap H) callerA [] s₁ H := ⟨rfl, hM, fun b o e => of_hidT e, Nat.le_of_eq (hidT_size _ _), trivial, fun b hb => (nomatch (show b ∈ ([] : List Addr) from hb)), hok, .of_eq hg⟩
  refine codeAny_mono ((F _ hKb (nsK hns) TB).run callerA [] s₁ H ⟨[.ref a], []⟩ [.ref a] [.ref a] _ _ hr rfl e0 (hbind s₁ [.ref a] KX rfl) (.cons rfl .nil) (hsp _ H ob Htb Hat)) fun r s' h => ?_
  match r, h with
  | .error e, h =>
    obtain ⟨_, _, _, _, _, _, _, _, _, _, _, _, z⟩ := h
    exact z.elim
  | .ok (.ret u), h =>
    obtain ⟨v, H', os, bare, un, hok', r', q⟩ := h
    cases q
    cases (show u = Value.bool true from r')
    have old : ∀ b o, b ∉ cs.map (·.2) → s₁.heap.get? b = some o → s'.heap.get? b = some o := fun b o hm e => by
      by_cases hb : b = a
      · subst hb
        obtain ⟨e2, _⟩ := hok' b _ (un.frzs b ob _ Hat)
        rw [ha] at e
        cases e
        exact e2
      · exact un.keep b o e (Hne hb hm) (fun z => nomatch (show b ∈ ([] : List Addr) from z)) (fun z => nomatch z)
    have grown : ∀ p ∈ cs, ∃ more : Array Value, s'.heap.get? p.2 = some { cls := .none, data := .fields more } := fun p hp => by
      obtain ⟨more, z⟩ := un.tbls p.2 #[] (Htb p hp)
      exact ⟨_, hok' p.2 _ z⟩
    refine ⟨rfl, ⟨fun b o e => ?_, fun b o e => ?_⟩, os, bare⟩
    · by_cases hm : b ∈ cs.map (·.2)
      · obtain ⟨p, hp, ep⟩ := List.mem_map.mp hm
        obtain ⟨more, hmore⟩ := grown p hp
        rw [tabAt hm] at e
        cases e
        rw [← ep]
        exact .inr (.inl ⟨((hT.cod p hp).tab (hT.emp p hp)).isCodeTable, rfl, #[], more, rfl, by rw [Array.empty_append]; exact hmore⟩)
      · exact .inl (old b o hm e)
    · by_cases hm : b ∈ cs.map (·.2)
      · obtain ⟨p, hp, ep⟩ := List.mem_map.mp hm
        obtain ⟨more, hmore⟩ := grown p hp
        exact ⟨_, by rw [← ep]; exact hmore⟩
      · exact ⟨o, old b o hm e⟩
theorem reps_int {K : Kl} {W : List Addr} {H : Hp} : ∀ ns : List Int, Reps K W H (ns.map D.int) (ns.map V.int)
  | [] => .nil
  | i :: r => .cons (.int i) (reps_int r)
/-- what the written part gives of the law -/
structure LawF (P : Program) (K : PySem.W.Frag) (w : World) (mg : Str → Option Value) (h : Heap) (fa : Addr) (n : Nat) (g : Orc) (nm : Str) : Prop where
  ex : ∃ (fd : FuncData) (x : Str) (xs : Excs) (cls : Str → Option Addr) (cs : List (Addr × Addr)) (T : List (Addr × Str)), noListB K = true ∧ Binds K fd [x] [] ∧ TabsIn K mg h cs ∧ (∀ p ∈ T, ∃ c, (c, p.1) ∈ cs) ∧
    ∀ base : Heap, K.In base → base.Ns mainGlobals mg → (∀ p ∈ cs, LamX.TabB base mg p.1 p.2) → FnG P w K mg base (L2.CX P w) n fa fd [x] (spD ⟨P, w, ⟨K, cls⟩, mg, base, T⟩ xs fun ρ => g [(ρ, none)] nm)
/-- from the plain law: the walk that the head leaves open -/
theorem law_walk {l : PySem.W.OpenLaw} {m n : Nat} {q : Program} {loose : List Str} {XP : (Str → Option Value) → Heap → Prop} {YP : World → Heap → Prop} {d : DefRec} {K : Params → PySem.W.Frag} {p : Pg}
    (hn : l.most = some m) (hn2 : m ≤ sizeLine) (hdf : d.params.defaults = []) (hr : Room (n + 2) callerA) (hY : ∀ (w : World) (h : Heap), YP w h → (K w.params).In h)
    (F : ∀ (w : World) (mg mb : Str → Option Value) (fa : Addr) (h : Heap) (lo : List Str) (mean : ExcName → Option Value), (K w.params).In h → Top q lo mean mg mb h → mg d.name = some (.ref fa) → LawF l.prog (K w.params) w mg h fa (n + 2) (callN p.fn n) d.name)
    (law : ∀ ns : List Int, ns.length ≤ m → ∃ st', callN p.fn n [([], none)] d.name [.fl (ns.map D.int)] [] = .ok (.bl true) st') :
    PySem.W.WalkO q loose XP YP l.row.toRowW d [] (fun f vs => PySem.call f vs) := by
  refine Att.attach_call hn hdf fun w s₀ s₁ mg mb fa o pm cd doc a vs ns G Y ho hd hcd hmg hobj hints hlen hg => ?_
  have KX := hY w _ Y
  obtain ⟨fd, x, xs, cls, cs, T, hno, hb, hT, hTc, hF⟩ := (F w mg mb fa _ _ _ KX G.T hmg).ex
  refine law_run KX G.T.g G.T.b G.T.builtins G.T.nolimit hg hno hT hobj hints (Nat.le_trans hlen hn2) hr hF hb fun base H ob htb ha => ?_
  obtain ⟨st', hst⟩ := law ns hlen
  refine ⟨[], [], [], [.fl (ns.map D.int)], ⟨(fun p hp => ?_), rfl, (fun i j b c c' h1 => by simp at h1), fun i c b h1 => by simp at h1⟩, .cons (.fl ha (reps_int ns)) .nil, ?_⟩
  · obtain ⟨c, hc⟩ := hTc p hp
    exact LamX.TabS.nil (htb (c, p.1) hc)
  · simp only [hst]
    intro W' H' v x so r
    cases r
    rfl
end MM
end

section
set_option Elab.async false
set_option linter.all false
set_option maxRecDepth 100000
set_option maxHeartbeats 4000000
/-! MMInit: own exception classes: __init__ that stores its arguments; what the top has made of the classes. -/
namespace MM
open PySem L2 PyProof.Rows
/-- self.f1 = p1; self.f2 = p2; .. -/
def initB (N : List Str) (sc : Scope) : List Str → Nat → List Stmt → Bool
  | [], _, xs => match xs with | [] => true | _ => false
  | f :: fl, i, xs => match xs with
    | .Assign [.Attribute (.Name s _) f' _] (.Name p _) _ :: r => decide (f' = f) && decide (N[0]? = some s) && visB sc s && !(s == ("__debug__" : Str)) && !(s == ("__classdict__" : Str)) && decide (N[i]? = some p) && visB sc p && !(p == ("__debug__" : Str)) && !(p == ("__classdict__" : Str)) && initB N sc fl (i + 1) r
    | _ => false
/-- the exception ahead of a store: no dict yet, or the dict d with the fields acc -/
def ExAt (H : Hp) (a C : Addr) (acc : List (Str × V)) : Prop := (acc = [] ∧ H a = some (exo a C none)) ∨ ∃ d, d ≠ a ∧ H a = some (exo a C (some d)) ∧ H d = some (exd d acc)
def initT (C : Addr) (fl : List Str) (i : Nat) : TS := fun D σ H => ∃ (a : Addr) (ws : List V) (acc : List (Str × V)) (H0 : Hp), ws.length = fl.length ∧ acc.length + fl.length ≤ 900 ∧ σ[0]? = some (some (.ref a)) ∧ (∀ j w, ws[j]? = some w → σ[i + j]? = some (some w)) ∧
  ((acc = [] ∧ H a = some (exo a C none) ∧ H = H0 ∧ fl ≠ [] ∧ ∀ d H2, H0 d = none → d ≠ a → H2 a = some (exo a C (some d)) → H2 d = some (exd d (fl.zip ws).reverse) → (∀ b, b ≠ a → b ≠ d → H2 b = H0 b) → D.nx σ H2) ∨
    ∃ d, d ≠ a ∧ H a = some (exo a C (some d)) ∧ H d = some (exd d acc) ∧ ∀ H2, H2 a = some (exo a C (some d)) → H2 d = some (exd d ((fl.zip ws).reverse ++ acc)) → (∀ b, b ≠ a → b ≠ d → H2 b = H b) → D.nx σ H2)
section
variable {X : Cx} {N : List Str} {sc : Scope} {C : Addr}
theorem init_pss (hN : X.N = N) (hsc : X.env.scope = sc) (T : OexC X.K C) : ∀ {fl : List Str} {i : Nat} {ss : List Stmt}, (∀ f ∈ fl, PySem.W.findIn X.K (.ref C) f = some none) → initB N sc fl i ss = true → PSs X ss (initT C fl i)
  | [], i, ss, hf, h => by
    simp only [initB] at h
    split at h
    · refine pss_imp pss_nil fun D σ H ⟨a, ws, acc, H0, h1, h2, h3, h4, h5⟩ => ?_
      rcases h5 with ⟨_, _, _, z, _⟩ | ⟨d, q1, q2, q3, q4⟩
      · exact absurd rfl z
      · exact q4 H q2 (by simpa using q3) fun _ _ _ => rfl
    · cases h
  | f :: fl, i, ss, hf, h => by
    simp only [initB] at h
    split at h
    · simp only [Bool.and_eq_true, decide_eq_true_eq, Bool.not_eq_true'] at h
      obtain ⟨⟨⟨⟨⟨⟨⟨⟨⟨a1, a2⟩, a3⟩, a4⟩, a5⟩, a6⟩, a7⟩, a8⟩, a9⟩, a10⟩ := h
      subst a1
      have ih := init_pss (i := i + 1) hN hsc T (fun g hg => hf g (List.mem_cons_of_mem _ hg)) a10
      have p0 := fun pos => pe_var (X := X) (i := 0) (pos := pos) (by rw [hN]; exact a2) (by rw [hsc]; exact visB_ok a3) a4 a5
      have p1 := fun pos => pe_var (X := X) (i := i) (pos := pos) (by rw [hN]; exact a6) (by rw [hsc]; exact visB_ok a7) a8 a9
      refine pss_imp (pss_cons (ps_ost (p0 _) (p1 _)) ih) fun D σ H ⟨a, ws, acc, H0, h1, h2, h3, h4, h5⟩ => ?_
      match ws, h1, h4, h5 with
      | w :: ws, h1, h4, h5 =>
        have hw : σ[i]? = some (some w) := h4 0 w rfl
        have hws : ∀ j w', ws[j]? = some w' → σ[i + 1 + j]? = some (some w') := fun j w' e => by
          have := h4 (j + 1) w' (by simpa using e)
          rw [show i + 1 + j = i + (j + 1) by omega]
          exact this
        refine ⟨w, hw, .ref a, h3, a, C, rfl, T, hf _ List.mem_cons_self, ?_⟩
        simp only [List.length_cons] at h1 h2
        rcases h5 with ⟨rfl, q1, rfl, _, q2⟩ | ⟨d, q1, q2, q3, q4⟩
        · refine .inl ⟨q1, fun dx ndx nda => ⟨a, ws, [(_, w)], H, by omega, by simp; omega, h3, hws, .inr ⟨dx, nda, upd_same, by rw [upd_ne nda, upd_same], fun H2 z1 z2 z3 => ?_⟩⟩⟩
          refine q2 dx H2 ndx nda z1 ?_ fun b hb hd => ?_
          · rw [z2]; simp [List.zip_cons_cons]
          · rw [z3 b hb hd, upd_ne hb, upd_ne hd]
        · refine .inr ⟨d, acc, q2, q3, by omega, a, ws, (_, w) :: acc, H, by omega, by simp; omega, h3, hws, .inr ⟨d, q1, by rw [upd_ne q1.symm]; exact q2, upd_same, fun H2 z1 z2 z3 => ?_⟩⟩
          refine q4 H2 z1 ?_ fun b hb hd => ?_
          · rw [z2]; simp [List.zip_cons_cons]
          · rw [z3 b hb hd, upd_ne hd]
    · cases h
end
/-- an exception class of the text: its name, its fields, the text of its __init__, the names there -/
structure Xc where
  c : Str
  fl : List Str
  st : Stmt
  q : Str
  N : List Str
def Xc.ok (x : Xc) : Bool := scopeB x.N x.N (defScope x.st) && initB x.N (defScope x.st) x.fl 1 (defBody x.st) && decide (x.N.length = x.fl.length + 1) && decide (x.fl ≠ []) && decide (x.fl.length ≤ 900)
section
variable {P : Program} {w : World} {K : PySem.W.Frag} {mg : Str → Option Value} {base : Heap}
theorem init_ok {x : Xc} {C f : Addr} {fd : FuncData} (h : x.ok = true) (F : L2.Fun K "__init__" x.q x.st f fd) (T : OexC K C) (hf : ∀ g ∈ x.fl, PySem.W.findIn K (.ref C) g = some none) : FnOk P w K mg base (L2.CX P w) 1 f fd x.N (spI C x.fl) := by
  simp only [Xc.ok, Bool.and_eq_true, decide_eq_true_eq] at h
  obtain ⟨⟨⟨⟨h1, h2⟩, h3⟩, h4⟩, h5⟩ := h
  refine F.okX (scopeB_ok h1) (fun vs H Q E hsp => ?_) fun cdv A outer s H vs Q E hr hsp => ?_
  · obtain ⟨a, ws, rfl, hl, _⟩ := hsp
    simp [hl, h3]
  · obtain ⟨a, ws, rfl, hl, he, hk⟩ := hsp
    refine ⟨_, init_pss rfl rfl T hf h2, a, ws, [], H, hl, by simpa using h5, ?_, fun j w' e => ?_, .inl ⟨rfl, he, rfl, h4, fun d H2 z1 z2 z3 z4 z5 => hk d H2 z1 z2 z3 z4 z5⟩⟩
    · simp [L2.start]
    · unfold L2.start
      have hj : j < ws.length := (List.getElem?_eq_some_iff.mp e).1
      rw [List.getElem?_append_left (by simp; omega), Nat.add_comm 1 j, List.map_cons, List.getElem?_cons_succ, List.getElem?_map, e]
      rfl
end
end MM
end

section
set_option Elab.async false
set_option linter.all false
set_option maxRecDepth 100000
set_option maxHeartbeats 4000000
/-! MMTop: from the facts of the written part to the law's promise. -/
namespace MM
open PySem L2 PyProof.Rows
def AllP {α : Type} (P : α → Prop) : List α → Prop
  | [] => True
  | a :: r => P a ∧ AllP P r
theorem AllP.mem {α : Type} {P : α → Prop} : ∀ {l : List α}, AllP P l → ∀ a ∈ l, P a
  | _ :: _, h, a, hm => by
    rcases List.mem_cons.mp hm with rfl | hm
    · exact h.1
    · exact AllP.mem h.2 a hm
section
variable {K : PySem.W.Frag} {mg : Str → Option Value} {h : Heap}
/-- a def as the written part has it; where it makes lambdas: its code object, the table -/
structure DefK0 (K : PySem.W.Frag) (mg : Str → Option Value) (d : Df) : Prop where
  ex : ∃ f fd, L2.Fun K d.x d.x d.st f fd ∧ mg d.x = some (.ref f) ∧ Binds K fd d.ps [] ∧ ((d.lam && !d.hi) = true → ∃ cd P, PySem.W.tabIn K d.x = some (cd, P) ∧ fd.code = .ref cd)
/-- a def, by what k_is finds -/
theorem defK_of {d : Df} {f : Addr} {oc : Value} {od an : Option Addr} {osl : Array (Option Value)} {kV doc pm cdv ct : Value} (X : K.In h) (G : h.Ns mainGlobals mg)
    (hb : ∀ (kV doc pm : Value) (an : Option Addr) (cdv ct : Value) (us : List Value), us.length = d.ps.length → bindArgs (PySem.W.fnOf d.x d.x (defArgs d.st) (defBody d.st) (defScope d.st) .none kV doc pm an cdv ct) ⟨us, []⟩ = pure (d.ps.zip us))
    (a : PySem.W.nsIn K mainGlobals d.x = some (some (.ref f))) (l : K.lookup f = some ⟨oc, od, .func (PySem.W.fnOf d.x d.x (defArgs d.st) (defBody d.st) (defScope d.st) .none kV doc pm an cdv ct), osl⟩)
    (c : PySem.W.codeIn K cdv d.x = true) (k : PySem.W.keepIn K (.ref f) = true) (hl : (d.lam && !d.hi) = false) : DefK0 K mg d :=
  ⟨f, _, fun_mk l c k, PySem.W.mg_of X G a, (fun_mk l c k).binds hb, fun z => by rw [hl] at z; cases z⟩
/-- .. that makes lambdas -/
theorem tab_mk {x : Str} {f cd P : Addr} {oc : Value} {od : Option Addr} {fd : FuncData} {osl : Array (Option Value)} (a : PySem.W.nsIn K mainGlobals x = some (some (.ref f))) (l : K.lookup f = some ⟨oc, od, .func fd, osl⟩) (hc : fd.code = .ref cd)
    {o2 : Value} {d2 : Option Addr} {vs : Array Value} {sl2 : Array (Option Value)} (lc : K.lookup cd = some ⟨o2, d2, .fields vs, sl2⟩) (vp : (vs[11]? : Option Value) = some (.ref P)) : PySem.W.tabIn K x = some (cd, P) := by
  unfold PySem.W.tabIn
  simp only [a, l, hc, lc, vp]
theorem defL_of {d : Df} {f cd P : Addr} {oc : Value} {od an : Option Addr} {osl : Array (Option Value)} {kV doc pm ct : Value} (X : K.In h) (G : h.Ns mainGlobals mg)
    (hb : ∀ (kV doc pm : Value) (an : Option Addr) (cdv ct : Value) (us : List Value), us.length = d.ps.length → bindArgs (PySem.W.fnOf d.x d.x (defArgs d.st) (defBody d.st) (defScope d.st) .none kV doc pm an cdv ct) ⟨us, []⟩ = pure (d.ps.zip us))
    (a : PySem.W.nsIn K mainGlobals d.x = some (some (.ref f))) (l : K.lookup f = some ⟨oc, od, .func (PySem.W.fnOf d.x d.x (defArgs d.st) (defBody d.st) (defScope d.st) .none kV doc pm an (.ref cd) ct), osl⟩)
    (c : PySem.W.codeIn K (.ref cd) d.x = true) (k : PySem.W.keepIn K (.ref f) = true) {o2 : Value} {d2 : Option Addr} {vs : Array Value} {sl2 : Array (Option Value)} (lc : K.lookup cd = some ⟨o2, d2, .fields vs, sl2⟩) (vp : (vs[11]? : Option Value) = some (.ref P)) : DefK0 K mg d :=
  ⟨f, _, fun_mk l c k, PySem.W.mg_of X G a, (fun_mk l c k).binds hb, fun _ => ⟨cd, P, tab_mk a l rfl lc vp, rfl⟩⟩
/-- the tables of the defs that make lambdas -/
structure TabK (K : PySem.W.Frag) (qp : Program) (q : Str × Addr × Addr) : Prop where
  tab : PySem.W.tabIn K q.1 = some q.2
  out : K.lookup q.2.2 = none
  fnd : ∃ d, (recsOf qp).find? (fun e => e.name == q.1) = some d
theorem tabK_of {qp : Program} {x : Str} {f cd P : Addr} {oc : Value} {od : Option Addr} {fd : FuncData} {osl : Array (Option Value)} (a : PySem.W.nsIn K mainGlobals x = some (some (.ref f))) (l : K.lookup f = some ⟨oc, od, .func fd, osl⟩) (hc : fd.code = .ref cd)
    {o2 : Value} {d2 : Option Addr} {vs : Array Value} {sl2 : Array (Option Value)} (lc : K.lookup cd = some ⟨o2, d2, .fields vs, sl2⟩) (vp : (vs[11]? : Option Value) = some (.ref P)) (out : K.lookup P = none) (fn : ((recsOf qp).find? (fun e => e.name == x)).isSome = true) : TabK K qp (x, cd, P) :=
  ⟨tab_mk a l hc lc vp, out, Option.isSome_iff_exists.mp fn⟩
/-- an own exception class -/
structure XcK (K : PySem.W.Frag) (mg : Str → Option Value) (xf : List Str) (x : Xc) : Prop where
  ex : ∃ C fI fd, mg x.c = some (.ref C) ∧ OexC K C ∧ XfC K C ∧ PySem.W.findIn K (.ref C) "__init__" = some (some (.ref fI)) ∧ PySem.W.typeIn K (.ref fI) = some (.type "function") ∧ L2.Fun K "__init__" x.q x.st fI fd ∧ Binds K fd x.N [] ∧
    ∀ f ∈ xf, PySem.W.findIn K (.ref C) f = some none
theorem xcK_of {x : Xc} {xf : List Str} {C fI N : Addr} {nm q : Str} {bs bm : List Value} {sn : List Str} {sub : List Value} {ab : Bool} {col : Option Bool} {dd : Option Addr} {m0 m1 m2 m3 m5 : Option Value} {oc : Value} {od an : Option Addr} {osl : Array (Option Value)} {kV doc pm cdv ct : Value} (X : K.In h) (G : h.Ns mainGlobals mg)
    (hb : ∀ (kV doc pm : Value) (an : Option Addr) (cdv ct : Value) (us : List Value), us.length = x.N.length → bindArgs (PySem.W.fnOf "__init__" x.q (defArgs x.st) (defBody x.st) (defScope x.st) .none kV doc pm an cdv ct) ⟨us, []⟩ = pure (x.N.zip us))
    (a : PySem.W.nsIn K mainGlobals x.c = some (some (.ref C)))
    (lc : K.lookup C = some (excClassObj nm q C N bs bm true sn sub ab col dd m0 m1 m2 m3 m5 "ValueError.__new__")) (hbm : PySem.HandSPX.refsVE bm = true)
    (sa : PySem.W.findIn K (.ref C) "__setattr__" = some (some (.builtin "object.__setattr__"))) (ga : PySem.W.findIn K (.ref C) "__getattribute__" = some (some (.builtin "BaseException.__getattribute__"))) (gg : PySem.W.findIn K (.ref C) "__getattr__" = some none)
    (i : PySem.W.findIn K (.ref C) "__init__" = some (some (.ref fI))) (t : PySem.W.typeIn K (.ref fI) = some (.type "function"))
    (l : K.lookup fI = some ⟨oc, od, .func (PySem.W.fnOf "__init__" x.q (defArgs x.st) (defBody x.st) (defScope x.st) .none kV doc pm an cdv ct), osl⟩) (c : PySem.W.codeIn K cdv x.q = true) (k : PySem.W.keepIn K (.ref fI) = true)
    (kC : PySem.W.keepIn K (.ref C) = true) (eC : PySem.W.subIn K (.ref C) (.type "BaseException") = some true) (tC : PySem.W.typeIn K (.ref C) = some (.type "type")) (hC : PySem.W.hasDictIn K C = true)
    (hf : AllP (fun f => PySem.W.findIn K (.ref C) f = some none) xf) : XcK K mg xf x :=
  ⟨C, fI, _, PySem.W.mg_of X G a, ⟨⟨nm, q, N, bs, bm, sn, sub, ab, col, dd, m0, m1, m2, m3, m5, lc, hbm⟩, sa, eC, tC, kC⟩, ⟨ga, gg, eC, hC⟩, i, t, fun_mk l c k, (fun_mk l c k).binds hb, fun f hm => hf.mem f hm⟩
/-- a clause's class against a raised class -/
structure HdK (K : PySem.W.Frag) (mg : Str → Option Value) (q : Str × List Str) (x : Xc) : Prop where
  ex : ∃ Cn Ch, mg x.c = some (.ref Cn) ∧ mg q.1 = some (.ref Ch) ∧ PySem.W.subIn K (.ref Cn) (.ref Ch) = some (decide (x.c ∈ q.2)) ∧ PySem.W.subIn K (.ref Ch) (.type "BaseException") = some true ∧ PySem.W.hasDictIn K Ch = true ∧ PySem.W.typeIn K (.ref Ch) = some (.type "type")
theorem hdK_of {q : Str × List Str} {x : Xc} {Cn Ch : Addr} {b : Bool} (X : K.In h) (G : h.Ns mainGlobals mg) (a : PySem.W.nsIn K mainGlobals x.c = some (some (.ref Cn))) (a2 : PySem.W.nsIn K mainGlobals q.1 = some (some (.ref Ch))) (s : PySem.W.subIn K (.ref Cn) (.ref Ch) = some b)
    (e : b = decide (x.c ∈ q.2)) (eC : PySem.W.subIn K (.ref Ch) (.type "BaseException") = some true) (hC : PySem.W.hasDictIn K Ch = true) (tC : PySem.W.typeIn K (.ref Ch) = some (.type "type")) : HdK K mg q x :=
  ⟨Cn, Ch, PySem.W.mg_of X G a, PySem.W.mg_of X G a2, by rw [s, e], eC, hC, tC⟩
/-- a class that isinstance asks for, against a raised class -/
structure IsK (K : PySem.W.Frag) (mg : Str → Option Value) (q : Str × List Str) (x : Xc) : Prop where
  ex : ∃ Cn Ch, mg x.c = some (.ref Cn) ∧ mg q.1 = some (.ref Ch) ∧ PySem.W.kitOne K (.ref Cn) (.ref Ch) = some (decide (x.c ∈ q.2)) ∧ IsC K Cn
theorem isK_of {q : Str × List Str} {x : Xc} {Cn Ch : Addr} {b : Bool} (X : K.In h) (G : h.Ns mainGlobals mg) (a : PySem.W.nsIn K mainGlobals x.c = some (some (.ref Cn))) (a2 : PySem.W.nsIn K mainGlobals q.1 = some (some (.ref Ch))) (s : PySem.W.subIn K (.ref Cn) (.ref Ch) = some b)
    (e : b = decide (x.c ∈ q.2)) (hC : PySem.W.hasDictIn K Ch = true) (tC : PySem.W.typeIn K (.ref Ch) = some (.type "type")) (ha : PySem.W.findIn K (.ref Cn) "__class__" = some (some (.builtin "object.__class__"))) (hn : PySem.W.specialIn K (.builtin "object.__class__") "__get__" = some (some (.builtin "getset_descriptor.__get__"))) (ht : PySem.W.takesIn K (.builtin "object.__class__") = some true) (hm : PySem.W.mroIn K Cn (.type "object") = some true)
    (hq : Cn = Ch → b = true) : IsK K mg q x := by
  refine ⟨Cn, Ch, PySem.W.mg_of X G a, PySem.W.mg_of X G a2, ?_, ha, hn, ht, hm⟩
  rw [← e]
  unfold PySem.W.kitOne
  by_cases z : ((.ref Cn : Value) == .ref Ch) = true
  · rw [if_pos z, hq (Value.ref.inj (beq_iff_eq.mp z))]
  · rw [if_neg z]
    obtain ⟨cd, hc, _⟩ := PySem.W.any_some hC
    have e2 : ((PySem.W.clsIn K Ch).isSome && PySem.W.typeIn K (.ref Ch) == some (.type "type")) = true := by rw [hc, tC] <;> rfl
    show (if ((PySem.W.clsIn K Ch).isSome && PySem.W.typeIn K (.ref Ch) == some (.type "type")) = true then PySem.W.subIn K (.ref Cn) (.ref Ch) else none) = some b
    rw [if_pos e2]
    exact s
/-- the classes that are raised -/
def xsOf (mg : Str → Option Value) (xcs : List Xc) : Excs := fun n => if n ∈ xcs.map (·.c) then (match mg n with | some (.ref C) => some C | _ => none) else none
theorem xsOf_in {xcs : List Xc} {n : Str} {C : Addr} (e : xsOf mg xcs n = some C) : ∃ x ∈ xcs, x.c = n ∧ mg n = some (.ref C) := by
  unfold xsOf at e
  split at e
  · rename_i hm
    obtain ⟨x, hx, rfl⟩ := List.mem_map.mp hm
    split at e
    · rename_i C' he
      cases e
      exact ⟨x, hx, rfl, he⟩
    · cases e
  · cases e
theorem xsOf_mk {xcs : List Xc} {x : Xc} {C : Addr} (hx : x ∈ xcs) (e : mg x.c = some (.ref C)) : xsOf mg xcs x.c = some C := by
  unfold xsOf
  rw [if_pos (List.mem_map.mpr ⟨x, hx, rfl⟩), e]
theorem ts_uniq : ∀ {l : List (Str × Addr × Addr)}, (l.map (·.2.2)).Nodup → ∀ {t t' : Str × Addr × Addr}, t ∈ l → t' ∈ l → t'.2.2 = t.2.2 → t' = t
  | y :: r, nd, t, t', h1, h2, h => by
    rw [List.map_cons, List.nodup_cons] at nd
    rcases List.mem_cons.mp h1 with z | z <;> rcases List.mem_cons.mp h2 with w | w
    · rw [z, w]
    · exact absurd (List.mem_map.mpr ⟨t', w, by rw [h, z]⟩) nd.1
    · exact absurd (List.mem_map.mpr ⟨t, z, by rw [← h, w]⟩) nd.1
    · exact ts_uniq nd.2 z w h
/-- the law's promise -/
theorem top_all {P qp : Program} {w : World} {p : Pg} {xcs : List Xc} {dl : Df} {fa : Addr} {xn : Str} {n : Nat} {lo : List Str} {mean : ExcName → Option Value} {mb : Str → Option Value} (ts : List (Str × Addr × Addr)) (KX : K.In h) (TT : Top qp lo mean mg mb h) (hfa : mg dl.x = some (.ref fa)) (hno : noListB K = true) (hdl : dl ∈ p.defs) (hps : dl.ps = [xn]) (hhi : dl.hi = false) (hne : xcs = [] → p.hs = []) (hne2 : xcs = [] → p.is = []) (nd : (p.defs.map (·.x)).Nodup)
    (hD : AllP (DefK0 K mg) p.defs) (hX : AllP (XcK K mg p.xf) xcs) (hH : AllP (fun q => AllP (HdK K mg q) xcs) p.hs) (hI : AllP (fun q => AllP (IsK K mg q) xcs) p.is) (hTs : AllP (TabK K qp) ts) (htn : (ts.map (·.2.2)).Nodup) (hTd : (p.defs.all fun d => !(d.lam && !d.hi) || ts.any fun q => decide (q.1 = d.x)) = true)
    (hT : ∀ base T, TbOk ⟨P, w, ⟨K, fun _ => none⟩, mg, base, T⟩ p.tb)
    (hok : p.defs.all p.ok = true) (hxo : (xcs.all fun x => x.ok && (x.fl.all fun f => decide (f ∈ p.xf))) = true) (hrs : (p.rs.all fun q => xcs.any fun x => decide (x.c = q.1 ∧ x.fl = q.2)) = true) :
    LawF P K w mg h fa (n + 3) (callN p.fn (n + 1)) dl.x := by
  obtain ⟨f, fd, F, h1, h2, _⟩ := (hD.mem dl hdl).ex
  rw [hfa] at h1
  cases h1
  have tabs : TabsIn K mg h (ts.map (·.2)) := by
    refine ⟨fun q hq => ?_, fun q hq => ?_, fun q hq => ?_, TT.bmain⟩
    · obtain ⟨t, ht, rfl⟩ := List.mem_map.mp hq
      obtain ⟨d, hd⟩ := (hTs.mem t ht).fnd
      exact (PySem.W.tab_of TT KX hd (hTs.mem t ht).tab).2
    · obtain ⟨t, ht, rfl⟩ := List.mem_map.mp hq
      exact (hTs.mem t ht).out
    · obtain ⟨t, ht, rfl⟩ := List.mem_map.mp hq
      obtain ⟨d, hd⟩ := (hTs.mem t ht).fnd
      exact (PySem.W.tab_of TT KX hd (hTs.mem t ht).tab).1
  refine ⟨fd, xn, xsOf mg xcs, fun _ => none, ts.map (·.2), ts.map (fun q => (q.2.2, lamQ q.1)), hno, hps ▸ h2, tabs, fun q hq => ?_, fun base hK hN hTB => ?_⟩
  · obtain ⟨t, ht, rfl⟩ := List.mem_map.mp hq
    exact ⟨t.2.1, List.mem_map.mpr ⟨t, ht, rfl⟩⟩
  have hxo' : ∀ x ∈ xcs, x.ok = true ∧ ∀ f ∈ x.fl, f ∈ p.xf := fun x hx => by
    have := List.all_eq_true.mp hxo x hx
    simp only [Bool.and_eq_true, List.all_eq_true, decide_eq_true_eq] at this
    exact this
  let G : Gam := ⟨P, w, ⟨K, fun _ => none⟩, mg, base, ts.map (fun q => (q.2.2, lamQ q.1))⟩
  have ea : ∀ fs, ∀ q ∈ p.rs, ExcAt ⟨G, xsOf mg xcs, fs, none, none⟩ q.1 q.2 := fun fs q hq => by
    have := List.all_eq_true.mp hrs q hq
    obtain ⟨x, hx, hxq⟩ := List.any_eq_true.mp this
    simp only [decide_eq_true_eq] at hxq
    obtain ⟨e1, e2⟩ := hxq
    obtain ⟨C, fI, fdI, q1, q2, q3, q4, q5, q6, q7, q8⟩ := (hX.mem x hx).ex
    obtain ⟨o1, o2⟩ := hxo' x hx
    rw [← e1, ← e2]
    refine ⟨⟨C, fI, fdI, x.N, xsOf_mk hx q1, q2, q1, q4, q5, q7, init_ok o1 q6 q2 fun g hg => q8 g (o2 g hg)⟩, ?_⟩
    simp only [Xc.ok, Bool.and_eq_true, decide_eq_true_eq] at o1
    have := o1.2
    omega
  have B : ∀ d ∈ p.defs, Base G (xsOf mg xcs) (p.ck d) := fun d hd => {
    T := hT base _
    rs := ea
    hs := fun fs q hq => by
      have hq' := hH.mem q hq
      cases xcs with
      | nil => exact absurd (show q ∈ p.hs from hq) (by rw [hne rfl]; exact fun z => nomatch z)
      | cons x0 xr =>
        obtain ⟨_, Ch, _, c1, _, c2, c3, c4⟩ := hq'.1.ex
        refine ⟨.ref Ch, .inl c1, fun n C e => ?_⟩
        obtain ⟨x, hx, rfl, e2⟩ := xsOf_in e
        obtain ⟨Cn, Ch', d1, d2, d3, d4, d5, d6⟩ := (hq'.mem x hx).ex
        rw [e2] at d1
        cases d1
        rw [c1] at d2
        cases d2
        exact PySem.W.exm_ref d4 d5 d6 d3
    is := fun fs q hq => by
      have hq' := hI.mem q hq
      cases xcs with
      | nil => exact absurd (show q ∈ p.is from hq) (by rw [hne2 rfl]; exact fun z => nomatch z)
      | cons x0 xr =>
        obtain ⟨_, Ch, _, c1, _⟩ := hq'.1.ex
        refine ⟨Ch, c1, fun n C e => ?_⟩
        obtain ⟨x, hx, rfl, e2⟩ := xsOf_in e
        obtain ⟨Cn, Ch', d1, d2, d3, d4⟩ := (hq'.mem x hx).ex
        rw [e2] at d1
        cases d1
        rw [c1] at d2
        cases d2
        obtain ⟨C', _, _, q1, _, q3, _⟩ := (hX.mem x hx).ex
        rw [e2] at q1
        cases q1
        exact ⟨d3, d4, q3⟩
    xf := fun fs => ⟨fun c C e => by
      obtain ⟨x, hx, rfl, e2⟩ := xsOf_in e
      obtain ⟨C', _, _, q1, _, q3, _, _, _, _, q8⟩ := (hX.mem x hx).ex
      rw [e2] at q1
      cases q1
      exact ⟨q3, q8⟩⟩
    cls := ⟨fun _ _ z => (nomatch z), fun _ _ _ _ z => (nomatch z), fun _ _ z => (nomatch z), fun _ _ z => (nomatch z), fun _ _ z => (nomatch z), fun _ _ z => (nomatch z), fun _ _ z => (nomatch z), fun _ _ z => (nomatch z)⟩ }
  have hok' : ∀ d ∈ p.defs, p.ok d = true := fun d hd => List.all_eq_true.mp hok d hd
  have lamAt : ∀ d ∈ p.defs, ∀ {fd : FuncData} {cd Pt : Addr}, (d.lam && !d.hi) = true → PySem.W.tabIn K d.x = some (cd, Pt) → fd.code = .ref cd → LamAt G d.x fd := fun d hd {fd cd Pt} hl ht hc => by
    have := List.all_eq_true.mp hTd d hd
    rw [hl, Bool.not_true, Bool.false_or, List.any_eq_true] at this
    obtain ⟨t, htm, hx⟩ := this
    have hx : t.1 = d.x := of_decide_eq_true hx
    have e := (hTs.mem t htm).tab
    rw [hx, ht] at e
    have e : (cd, Pt) = t.2 := Option.some.inj e
    refine ⟨cd, Pt, hc, hTB (cd, Pt) (List.mem_map.mpr ⟨t, htm, e.symm⟩), List.mem_map.mpr ⟨t, htm, by rw [← e, hx]⟩, fun q hq hq1 => ?_⟩
    obtain ⟨t', ht', rfl⟩ := List.mem_map.mp hq
    have hq1 : t'.2.2 = Pt := hq1
    have e2 : t.2.2 = Pt := by rw [← e]
    have : t' = t := ts_uniq htn htm ht' (hq1.trans e2.symm)
    rw [this, ← hx]
  have DK : ∀ d ∈ p.defs, DefK G d := fun d hd => by
    obtain ⟨f, fd, F, q1, q2, q3⟩ := (hD.mem d hd).ex
    exact ⟨f, fd, F, q1, q2, fun hl => by
      obtain ⟨cd, Pt, t1, t2⟩ := q3 hl
      exact lamAt d hd hl t1 t2⟩
  have ho := hok' dl hdl
  simp only [Pg.ok, Bool.and_eq_true, decide_eq_true_eq, hhi, Bool.false_eq_true, if_false] at ho
  obtain ⟨f', fd', F', q1, q2, q3⟩ := (DK dl hdl).ex
  have : f' = fa := by
    have q1 : mg dl.x = some (.ref f') := q1
    rw [hfa] at q1; cases q1; rfl
  subst this
  have efd : fd' = fd := by
    obtain ⟨oc, od, kV, doc, pm, an, cdv, ct, osl, e1, lk, hcd⟩ := F.ex
    obtain ⟨oc', od', kV', doc', pm', an', cdv', ct', osl', e1', lk', hcd'⟩ := F'.ex
    have lk2 : K.lookup f' = some ⟨oc', od', .func fd', osl'⟩ := lk'
    rw [lk2] at lk
    injection lk with lk
    injection lk with _ _ h3 _
    injection h3
  subst efd
  have e : (fun ρ => callN p.fn (n + 1) [(ρ, none)] dl.x) = fun ρ => runFn (callN p.fn n) [(ρ, none)] dl.fn := by
    funext ρ ds st
    simp only [callN, fn_of nd hdl, if_neg ho.1.1]
  rw [e, ← hps]
  exact fn_step (c := p.ck dl) (fs := []) (B dl hdl) F (scopeB_ok ho.1.2) rfl rfl rfl rfl rfl hhi ho.2 (fun fs y hy => (all_defs nd B DK hok' n).1 fs y hy) (fun fs gn hgn => (all_defs nd B DK hok' n).2 fs dl gn (by
    have hgn : gn ∈ (if dl.lam && !dl.hi then p.ho else []) := hgn
    split at hgn
    · exact hgn
    · cases hgn)) q3
/-- the table of names, by what k_is finds -/
def bfG : Bf → Option Value
  | .bgcd => some (.builtin "math.gcd")
  | _ => none
def GK (K : PySem.W.Frag) (mg : Str → Option Value) (q : Str × D) : Prop := ∃ v u, mg q.1 = some u ∧ RelV v u ∧ ∀ (k : Kl) W H, Rep k W H q.2 v
theorem gk_str {x s : Str} {t : Tok} (X : K.In h) (G : h.Ns mainGlobals mg) (a : PySem.W.nsIn K mainGlobals x = some (some (.str s t))) : GK K mg (x, .str s) := ⟨.str s, _, PySem.W.mg_of X G a, ⟨t, rfl⟩, fun _ _ _ => .str s⟩
theorem gk_int {x : Str} {i : Int} {t : Tok} (X : K.In h) (G : h.Ns mainGlobals mg) (a : PySem.W.nsIn K mainGlobals x = some (some (.int i t))) : GK K mg (x, .int i) := ⟨.int i, _, PySem.W.mg_of X G a, ⟨t, rfl⟩, fun _ _ _ => .int i⟩
theorem tbOk_of {P : Program} {w : World} {tb : Tb} (X : K.In h) (G : h.Ns mainGlobals mg) (hb : AllP (fun b => PySem.W.nsIn K mainGlobals (bfName b) = some (bfG b)) tb.bs) (ht : AllP (fun t => match t with | .own _ => False | t => PySem.W.nsIn K mainGlobals (tyNm t) = some none) tb.ts)
    (hg : AllP (GK K mg) tb.gs) (hi : PySem.W.nsIn K mainGlobals "isinstance" = some none) (hr : PySem.W.nsIn K mainGlobals "range" = some none) (hz : PySem.W.nsIn K mainGlobals "zip" = some none) (he : PySem.W.nsIn K mainGlobals "enumerate" = some none) (base : Heap) (T : List (Addr × Str)) : TbOk ⟨P, w, ⟨K, fun _ => none⟩, mg, base, T⟩ tb where
  bs := fun b hm => by
    have q := hb.mem b hm
    refine ⟨fun e => ?_, fun e => ?_⟩
    · subst e; exact PySem.W.mg_of X G q
    · refine PySem.W.mg_none_of X G ?_
      rw [q]
      cases b <;> first | rfl | exact absurd rfl e
  ts := fun t hm => by
    have q := ht.mem t hm
    cases t with
    | own c => exact q.elim
    | _ => exact PySem.W.mg_none_of X G q
  gs := fun q hm => let ⟨v, u, h1, h2, h3⟩ := hg.mem q hm; ⟨v, u, h1, h2, fun W H => h3 _ W H⟩
  isi := PySem.W.mg_none_of X G hi
  rng := PySem.W.mg_none_of X G hr
  zip := PySem.W.mg_none_of X G hz
  enm := PySem.W.mg_none_of X G he
end
end MM
end

section
set_option Elab.async false
set_option linter.all false
set_option maxRecDepth 100000
/-! MMSimp: the evaluator's equations, for simp. -/
namespace MM
open PySem
section
variable (C : Orc) (fs : List Fr) (cu : Option Ex) (ρ : Env) (st : Store)
@[simp] theorem ev_v (i : Nat) : evE C fs cu (.v i) ρ st = match ρ[i]? with | some (some d) => .ok d st | _ => .bad := rfl
@[simp] theorem ev_con (d : D) : evE C fs cu (.con d) ρ st = .ok d st := rfl
@[simp] theorem ev_glob (x : Str) (d : D) : evE C fs cu (.glob x d) ρ st = .ok d st := rfl
@[simp] theorem ev_bin (op : Operator) (a b : E) : evE C fs cu (.bin op a b) ρ st = (evE C fs cu a ρ st).bind fun x st1 => (evE C fs cu b ρ st1).bind fun y st2 => binD op x y st2 := rfl
@[simp] theorem ev_neg (a : E) : evE C fs cu (.neg a) ρ st = (evE C fs cu a ρ st).bind fun x st1 => negD x st1 := rfl
@[simp] theorem ev_inv (a : E) : evE C fs cu (.inv a) ρ st = (evE C fs cu a ρ st).bind fun x st1 => invD x st1 := rfl
@[simp] theorem ev_not (a : E) : evE C fs cu (.not a) ρ st = (evE C fs cu a ρ st).bind fun x st1 => ofB ((truD x st1).map (!·)) st1 := rfl
@[simp] theorem ev_cmp (op : CmpOp) (a b : E) : evE C fs cu (.cmp op a b) ρ st = (evE C fs cu a ρ st).bind fun x st1 => (evE C fs cu b ρ st1).bind fun y st2 => ofB (cmpD op x y st2) st2 := rfl
@[simp] theorem ev_and (a b : E) : evE C fs cu (.and a b) ρ st = (evE C fs cu a ρ st).bind fun x st1 => match truD x st1 with | some true => evE C fs cu b ρ st1 | some false => .ok x st1 | none => .bad := rfl
@[simp] theorem ev_or (a b : E) : evE C fs cu (.or a b) ρ st = (evE C fs cu a ρ st).bind fun x st1 => match truD x st1 with | some true => .ok x st1 | some false => evE C fs cu b ρ st1 | none => .bad := rfl
@[simp] theorem ev_ite (c a b : E) : evE C fs cu (.ite c a b) ρ st = (evE C fs cu c ρ st).bind fun x st1 => match truD x st1 with | some true => evE C fs cu a ρ st1 | some false => evE C fs cu b ρ st1 | none => .bad := rfl
@[simp] theorem ev_tup (es : Es) : evE C fs cu (.tup es) ρ st = (evEs C fs cu es ρ st).bind fun ds st1 => if ds.length ≤ big then .ok (.tup ds) st1 else .bad := rfl
@[simp] theorem ev_lst (es : Es) : evE C fs cu (.lst es) ρ st = (evEs C fs cu es ρ st).bind fun ds st1 => if ds.length ≤ big then .ok (.loc st1.length) (st1 ++ [.lst ds]) else .bad := rfl
@[simp] theorem ev_dic (ps : Ps) : evE C fs cu (.dic ps) ρ st = (evPs C fs cu ps ρ st).bind fun kvs st1 => if kvs.length ≤ 15 then .ok (.loc st1.length) (st1 ++ [.dic (kvs.foldl (fun acc p => putK p.1 p.2 acc) [])]) else .bad := rfl
@[simp] theorem ev_idx (a i : E) : evE C fs cu (.idx a i) ρ st = (evE C fs cu a ρ st).bind fun x st1 => (evE C fs cu i ρ st1).bind fun y st2 => ofD (idxD x y st2) st2 := rfl
@[simp] theorem ev_sl (a lo hi : E) : evE C fs cu (.sl a lo hi) ρ st = (evE C fs cu a ρ st).bind fun x st1 => (needI (isOmit lo) (evE C fs cu lo ρ st1)).bind fun l st2 => (needI (isOmit hi) (evE C fs cu hi ρ st2)).bind fun h st3 => slD x l h st3 := rfl
@[simp] theorem ev_omit : evE C fs cu .omit ρ st = .ok .non st := rfl
@[simp] theorem ev_call (f : Str) (as : Es) : evE C fs cu (.call f as) ρ st = (evEs C fs cu as ρ st).bind fun ds st1 => C ((ρ, none) :: fs) f ds st1 := rfl
@[simp] theorem ev_blt (b : Bf) (as : Es) : evE C fs cu (.blt b as) ρ st = (evEs C fs cu as ρ st).bind fun ds st1 => bltD b ds st1 := rfl
@[simp] theorem ev_isin (a : E) (ts : List Ty) : evE C fs cu (.isin a ts) ρ st = (evE C fs cu a ρ st).bind fun x st1 => ofB (isTys ts x st1) st1 := rfl
@[simp] theorem ev_meth (m : Mt) (o : E) (as : Es) : evE C fs cu (.meth m o as) ρ st = (evE C fs cu o ρ st).bind fun x st1 => if recvD m x st1 = true then (evEs C fs cu as ρ st1).bind fun ds st2 => methD m x ds st2 else .bad := rfl
@[simp] theorem ev_fstr (ps : Es) : evE C fs cu (.fstr ps) ρ st = (evFs C fs cu ps Str.empty ρ st).bind fun x st1 => .ok (.str x) st1 := rfl
@[simp] theorem ev_exF (f : Str) : evE C fs cu (.exF f) ρ st = match cu with | some e => ofD (lookF f e.fs) st | none => .bad := rfl
theorem ev_comp (own : List Nat) (t : Tg) (it : It) (cond elt : E) : evE C fs cu (.comp own t it cond elt) ρ st = (evIt C fs cu it ρ st).bind fun p st1 => if p.1.length ≤ big then
      noExc ((compL t (fun ρ1 st => evE C fs cu cond ρ1 st) (fun ρ1 st => evE C fs cu elt ρ1 st) (wipeE ρ own) p.2 p.1 st1).bind fun ys st2 => .ok (.loc st2.length) (st2 ++ [.lst ys])) else .bad := rfl
@[simp] theorem ev_frz (a : E) : evE C fs cu (.frz a) ρ st = (evE C fs cu a ρ st).bind fun d st1 => frzE st d st1 := rfl
@[simp] theorem ev_callH (f : Str) (b : E) (as : Es) : evE C fs cu (.callH f b as) ρ st = noExc ((evEs C fs cu as ρ st).bind fun ds st1 => C ((ρ, some b) :: fs) f ds st1) := rfl
@[simp] theorem ev_callv : evE C fs cu .callv ρ st = C fs Str.empty [] st := rfl
@[simp] theorem ev_es0 : evEs C fs cu .nil ρ st = .ok [] st := rfl
@[simp] theorem ev_es1 (e : E) (es : Es) : evEs C fs cu (.cons e es) ρ st = (evE C fs cu e ρ st).bind fun d st1 => (evEs C fs cu es ρ st1).bind fun ds st2 => .ok (d :: ds) st2 := rfl
@[simp] theorem ev_ps0 : evPs C fs cu .nil ρ st = .ok [] st := rfl
@[simp] theorem ev_ps2 (k : E) (e : E) (ps : Ps) : evPs C fs cu (.consE k e ps) ρ st = (evE C fs cu k ρ st).bind fun d st1 => match keyD d with | some k => (evE C fs cu e ρ st1).bind fun y st2 => (evPs C fs cu ps ρ st2).bind fun r st3 => .ok ((k, y) :: r) st3 | none => .bad := rfl
@[simp] theorem ev_ps1 (k : Sum Int Str) (e : E) (ps : Ps) : evPs C fs cu (.cons k e ps) ρ st = (evE C fs cu e ρ st).bind fun y st2 => (evPs C fs cu ps ρ st2).bind fun r st3 => .ok ((k, y) :: r) st3 := rfl
@[simp] theorem ev_fs0 (acc : Str) : evFs C fs cu .nil acc ρ st = .ok acc st := rfl
@[simp] theorem ev_fs1 (e : E) (es : Es) (acc : Str) : evFs C fs cu (.cons e es) acc ρ st = (evE C fs cu e ρ st).bind fun d st1 => match fmtD d with
    | some x => if acc.length + x.length ≤ big then evFs C fs cu es (acc ++ x) ρ st1 else .bad
    | none => .bad := rfl
@[simp] theorem ev_ite_e (a : E) : evIt C fs cu (.e a) ρ st = (evE C fs cu a ρ st).bind fun d st1 => srcOf st d st1 := rfl
@[simp] theorem ev_it_r1 (a : E) : evIt C fs cu (.rng1 a) ρ st = (evE C fs cu a ρ st).bind fun x st1 => rng1D x st1 := rfl
@[simp] theorem ev_it_r2 (a b : E) : evIt C fs cu (.rng2 a b) ρ st = (evE C fs cu a ρ st).bind fun x st1 => (evE C fs cu b ρ st1).bind fun y st2 => rng2D x y st2 := rfl
@[simp] theorem ev_it_zip (a b : E) : evIt C fs cu (.zip a b) ρ st = (evE C fs cu a ρ st).bind fun x st1 => (evE C fs cu b ρ st1).bind fun y st2 => zipD st x y st2 := rfl
@[simp] theorem ev_it_enum (a : E) : evIt C fs cu (.enum a) ρ st = (evE C fs cu a ρ st).bind fun x st1 => enumDD st x st1 := rfl
@[simp] theorem ev_t (c : E) : evT C fs cu c ρ st = (evE C fs cu c ρ st).bind fun d st1 => match truD d st1 with | some k => .ok k (gc st st1 0) | none => .bad := rfl
/-! ### statements -/
def SRes.thn (r : SRes) (k : Env → Store → SRes) : SRes := match r with | .nxt ρ st => k ρ st | r => r
@[simp] theorem thn_nxt (k : Env → Store → SRes) : (SRes.nxt ρ st).thn k = k ρ st := rfl
@[simp] theorem thn_ret (d : D) (k : Env → Store → SRes) : (SRes.ret d st).thn k = .ret d st := rfl
@[simp] theorem thn_exc (e : Ex) (k : Env → Store → SRes) : (SRes.exc e ρ st).thn k = .exc e ρ st := rfl
@[simp] theorem thn_brk (k : Env → Store → SRes) : (SRes.brk ρ st).thn k = .brk ρ st := rfl
@[simp] theorem thn_cnt (k : Env → Store → SRes) : (SRes.cnt ρ st).thn k = .cnt ρ st := rfl
@[simp] theorem thn_bad (k : Env → Store → SRes) : SRes.bad.thn k = .bad := rfl
@[simp] theorem ev_ss0 : evSs C fs cu .nil ρ st = .nxt ρ st := rfl
@[simp] theorem ev_ss1 (s : S) (ss : Ss) : evSs C fs cu (.cons s ss) ρ st = (evS C fs cu s ρ st).thn fun ρ1 st1 => evSs C fs cu ss ρ1 st1 := by
  simp only [evSs]; cases evS C fs cu s ρ st <;> rfl
@[simp] theorem ev_asg (i : Nat) (e : E) : evS C fs cu (.asg i e) ρ st = SRes.of (evE C fs cu e ρ st) ρ fun d st1 => .nxt (ρ.set i (some d)) (gc st st1 d.lim) := rfl
@[simp] theorem ev_asgT (is : List Nat) (e : E) : evS C fs cu (.asgT is e) ρ st = SRes.of (evE C fs cu e ρ st) ρ fun d st1 => match d with
    | .tup xs => (match asgN is xs ρ with | some ρ1 => .nxt ρ1 (gc st st1 (D.lims xs)) | none => .bad)
    | _ => .bad := rfl
@[simp] theorem ev_par (is : List Nat) (es : Es) : evS C fs cu (.par is es) ρ st = SRes.of (evEs C fs cu es ρ st) ρ fun ds st1 => match asgN is ds ρ with | some ρ1 => .nxt ρ1 (gc st st1 (D.lims ds)) | none => .bad := rfl
@[simp] theorem ev_set (o i e : E) : evS C fs cu (.set o i e) ρ st = SRes.of (evE C fs cu e ρ st) ρ fun d st1 => SRes.of (evE C fs cu o ρ st1) ρ fun x st2 => SRes.of (evE C fs cu i ρ st2) ρ fun y st3 =>
      match setD x y d st3 with | some st4 => .nxt ρ (gc st st4 0) | none => .bad := rfl
@[simp] theorem ev_aug (i : Nat) (op : Operator) (e : E) : evS C fs cu (.aug i op e) ρ st = match ρ[i]? with
    | some (some x) => SRes.of (evE C fs cu e ρ st) ρ fun d st1 => SRes.of (augD op x d st1) ρ fun y st2 => .nxt (ρ.set i (some y)) (gc st st2 y.lim)
    | _ => .bad := rfl
@[simp] theorem ev_expr (e : E) : evS C fs cu (.expr e) ρ st = SRes.of (evE C fs cu e ρ st) ρ fun _ st1 => .nxt ρ (gc st st1 0) := rfl
@[simp] theorem ev_ret (e : E) : evS C fs cu (.ret e) ρ st = SRes.of (evE C fs cu e ρ st) ρ fun d st1 => .ret d st1 := rfl
@[simp] theorem ev_retN : evS C fs cu .retN ρ st = .ret .non st := rfl
@[simp] theorem ev_if (c : E) (a b : Ss) : evS C fs cu (.ife c a b) ρ st = SRes.of (evT C fs cu c ρ st) ρ fun k st1 => if k then evSs C fs cu a ρ st1 else evSs C fs cu b ρ st1 := rfl
@[simp] theorem ev_for (t : Tg) (it : It) (body : Ss) : evS C fs cu (.for t it body) ρ st = SRes.of (evIt C fs cu it ρ st) ρ fun p st1 => forL (fun ρ st => evSs C fs cu body ρ st) t p.2 p.1 ρ st1 := rfl
@[simp] theorem ev_whl (c : E) (body : Ss) : evS C fs cu (.whl c body) ρ st = whlN (fun ρ st => evT C fs cu c ρ st) (fun ρ st => evSs C fs cu body ρ st) fuelW ρ st := rfl
@[simp] theorem ev_brk : evS C fs cu .brk ρ st = .brk ρ st := rfl
@[simp] theorem ev_cnt : evS C fs cu .cnt ρ st = .cnt ρ st := rfl
@[simp] theorem ev_pass : evS C fs cu .pass ρ st = .nxt ρ st := rfl
@[simp] theorem ev_raise (c : Str) (fl : List Str) (as : Es) : evS C fs cu (.raise c fl as) ρ st = SRes.of (evEs C fs cu as ρ st) ρ fun ds st1 => if ds.length = fl.length then .exc ⟨c, (fl.zip ds).reverse⟩ ρ (gc st st1 (D.lims ds)) else .bad := rfl
theorem ev_try (body : Ss) (hs : Hs) : evS C fs cu (.try body hs) ρ st = match evSs C fs cu body ρ st with
    | .exc e ρ1 st1 => evHs C fs hs e ρ1 st1
    | r => r := rfl
end
/-- a def called: what its body ends with -/
noncomputable def retD (a : Store) (r : SRes) : Res D := match r with
    | .ret d st1 => retF a st1 d
    | .nxt _ st1 => .ok .non (gc a st1 0)
    | .exc e _ st1 => .exc e (gc a st1 (exLim e))
    | _ => .bad
@[simp] theorem retD_ret (a st : Store) (d : D) : retD a (.ret d st) = retF a st d := rfl
@[simp] theorem retD_nxt (a st : Store) (ρ : Env) : retD a (.nxt ρ st) = .ok .non (gc a st 0) := rfl
@[simp] theorem retD_exc (a st : Store) (e : Ex) (ρ : Env) : retD a (.exc e ρ st) = .exc e (gc a st (exLim e)) := rfl
/-- the call of a def -/
theorem call_fn {prog : Str → Option Fn} {n : Nat} {fs : List Fr} {f : Str} {ar sl : Nat} {b : Ss} {ds : List D} {st : Store} (h : prog f = some ⟨ar, sl, b, false⟩) (hf : f ≠ Str.empty) (hl : ds.length = ar) :
    callN prog (n + 1) fs f ds st = retD st (evSs (callN prog n) fs none b (ds.map some ++ List.replicate (sl - ar) none) st) := by
  simp only [callN, if_neg hf, h, runFn, Bool.false_eq_true, if_false, hl, if_true, startE]
  cases evSs (callN prog n) fs none b (ds.map some ++ List.replicate (sl - ar) none) st <;> rfl
/-- .. that gets a lambda -/
theorem call_hi {prog : Str → Option Fn} {n : Nat} {fs : List Fr} {f : Str} {ar sl : Nat} {b : Ss} {ds : List D} {st : Store} (h : prog f = some ⟨ar, sl, b, true⟩) (hf : f ≠ Str.empty) (hl : ds.length + 1 = ar) :
    callN prog (n + 1) fs f ds st = retD st (evSs (callN prog n) fs none b ((none :: ds.map some) ++ List.replicate (sl - ar) none) st) := by
  simp only [callN, if_neg hf, h, runFn, hl, if_true, startE]
  cases evSs (callN prog n) fs none b ((none :: ds.map some) ++ List.replicate (sl - ar) none) st <;> rfl
theorem call_lam {prog : Str → Option Fn} {n : Nat} {ρ : Env} {b : E} {fs : List Fr} {st : Store} : callN prog (n + 1) ((ρ, some b) :: fs) Str.empty [] st = (match evE (callN prog n) fs none b ρ st with
    | .ok d st1 => .ok d (gc st st1 d.lim)
    | .exc e st1 => .exc e (gc st st1 (exLim e))
    | .bad => .bad) := by
  simp only [callN, if_true, runLam]
  all_goals (cases evE (callN prog n) fs none b ρ st <;> rfl)
/-! ### a for over items, by an invariant -/
theorem forL_nil {b : Env → Store → SRes} {t : Tg} {ρ : Env} {st : Store} : forL b t [] [] ρ st = .nxt ρ st := by
  have hw : wOk [] st := fun _ h => nomatch h
  simp only [forL, if_pos hw]
theorem forL_cons {b : Env → Store → SRes} {t : Tg} {x : D} {r : List D} {ρ ρ1 : Env} {st : Store} (h : asgTg t x ρ = some ρ1) : forL b t [] (x :: r) ρ st = (match b ρ1 st with
      | .nxt ρ2 st2 => forL b t [] r ρ2 st2
      | .cnt ρ2 st2 => forL b t [] r ρ2 st2
      | .brk ρ2 st2 => .nxt ρ2 st2
      | .ret d st2 => .ret d st2
      | .exc e ρ2 st2 => .exc e ρ2 st2
      | .bad => .bad) := by
  have hw : wOk [] st := fun _ h => nomatch h
  simp only [forL, if_pos hw, h]
  all_goals (cases b ρ1 st <;> rfl)
/-- every turn ends at the next: the invariant P, by the number of turns -/
theorem forL_all {b : Env → Store → SRes} {i : Nat} {xs : List D} (P : Nat → Env → Store → Prop) (hstep : ∀ k x ρ st, xs[k]? = some x → P k ρ st → ∃ ρ' st', (b (ρ.set i (some x)) st = .nxt ρ' st' ∨ b (ρ.set i (some x)) st = .cnt ρ' st') ∧ P (k + 1) ρ' st') :
    ∀ {ρ : Env} {st : Store}, P 0 ρ st → ∃ ρ' st', forL b (.n i) [] xs ρ st = .nxt ρ' st' ∧ P xs.length ρ' st' := by
  have key : ∀ (ys : List D) (k : Nat) (ρ : Env) (st : Store), xs.drop k = ys → k + ys.length = xs.length → P k ρ st → ∃ ρ' st', forL b (.n i) [] ys ρ st = .nxt ρ' st' ∧ P xs.length ρ' st' := by
    intro ys
    induction ys with
    | nil =>
      intro k ρ st _ hl hp
      simp at hl
      subst hl
      exact ⟨ρ, st, forL_nil, hp⟩
    | cons y ys ih =>
      intro k ρ st hd hl hp
      simp only [List.length_cons] at hl
      have hk : k < xs.length := by omega
      have hx : xs[k]? = some y := by
        have : (xs.drop k)[0]? = some y := by rw [hd]; rfl
        rw [List.getElem?_drop] at this
        simpa using this
      obtain ⟨ρ', st', hb, hp'⟩ := hstep k y ρ st hx hp
      have hd' : xs.drop (k + 1) = ys := by
        rw [List.drop_eq_getElem_cons hk] at hd
        exact (List.cons.inj hd).2
      obtain ⟨ρ2, st2, h1, h2⟩ := ih (k + 1) ρ' st' hd' (by omega) hp'
      refine ⟨ρ2, st2, ?_, h2⟩
      rw [forL_cons (ρ1 := ρ.set i (some y)) rfl]
      rcases hb with hb | hb <;> rw [hb] <;> exact h1
  intro ρ st hp
  exact key xs 0 ρ st rfl (by simp) hp
/-! ### values -/
section
variable (st : Store)
@[simp] theorem ofD_some (d : D) : ofD (some d) st = .ok d st := rfl
@[simp] theorem ofB_some (b : Bool) : ofB (some b) st = .ok (.bl b) st := rfl
@[simp] theorem bin_add (i j : Int) : binD .Add (.int i) (.int j) st = .ok (.int (i + j)) st := rfl
@[simp] theorem bin_sub (i j : Int) : binD .Sub (.int i) (.int j) st = .ok (.int (i - j)) st := rfl
@[simp] theorem cmp_lt (i j : Int) : cmpD .Lt (.int i) (.int j) st = some (decide (i < j)) := rfl
@[simp] theorem cmp_le (i j : Int) : cmpD .LtE (.int i) (.int j) st = some (decide (i ≤ j)) := rfl
@[simp] theorem cmp_gt (i j : Int) : cmpD .Gt (.int i) (.int j) st = some (decide (j < i)) := rfl
@[simp] theorem cmp_ge (i j : Int) : cmpD .GtE (.int i) (.int j) st = some (decide (j ≤ i)) := rfl
theorem eq_int (i j : Int) : eqD (.int i) (.int j) st = some (decide (i = j)) := by
  simp only [eqD, eqP, toP, toPw, plainP, PyData.canLay0, PyData.depth, PyData.eqv]
  by_cases h : i = j <;> simp [h]
@[simp] theorem eq_str (x y : Str) : eqD (.str x) (.str y) st = some (decide (x = y)) := rfl
@[simp] theorem cmp_eqi (i j : Int) : cmpD .Eq (.int i) (.int j) st = some (decide (i = j)) := by simp only [cmpD, eq_int]
@[simp] theorem cmp_nei (i j : Int) : cmpD .NotEq (.int i) (.int j) st = some (decide (i ≠ j)) := by simp only [cmpD, eq_int, Option.map_some, decide_not]
@[simp] theorem cmp_eqs (x y : Str) : cmpD .Eq (.str x) (.str y) st = some (decide (x = y)) := rfl
@[simp] theorem cmp_nes (x y : Str) : cmpD .NotEq (.str x) (.str y) st = some (decide (x ≠ y)) := by simp only [cmpD, eq_str, Option.map_some, decide_not]
@[simp] theorem tru_bl (b : Bool) : truD (.bl b) st = some b := rfl
@[simp] theorem tru_non : truD .non st = some false := rfl
@[simp] theorem bint_int (i : Int) : bltD .bint [.int i] st = .ok (.int i) st := rfl
@[simp] theorem lim_int (i : Int) : D.lim (.int i) = 0 := by simp [D.lim]
@[simp] theorem lim_bl (i : Bool) : D.lim (.bl i) = 0 := by simp [D.lim]
@[simp] theorem lim_non : D.lim .non = 0 := by simp [D.lim]
@[simp] theorem lim_str (i : Str) : D.lim (.str i) = 0 := by simp [D.lim]
@[simp] theorem lim_loc (i : Nat) : D.lim (.loc i) = i + 1 := by simp [D.lim]
@[simp] theorem lim_tup (xs : List D) : D.lim (.tup xs) = D.lims xs := by simp [D.lim]
@[simp] theorem lims_nil : D.lims [] = 0 := by simp [D.lims]
@[simp] theorem lims_cons (x : D) (xs : List D) : D.lims (x :: xs) = max x.lim (D.lims xs) := by simp [D.lims]
@[simp] theorem needI_t (r : Res D) : needI true r = r := rfl
@[simp] theorem needI_f (i : Int) : needI false (.ok (.int i) st) = .ok (.int i) st := rfl
end
/-! ### runs, a statement at a time -/
section
variable {C : Orc} {fs : List Fr} {cu : Option Ex} {ρ ρ1 : Env} {st st1 : Store} {s : S} {ss : Ss}
theorem sq_nxt {r : SRes} (h : evS C fs cu s ρ st = .nxt ρ1 st1) (k : evSs C fs cu ss ρ1 st1 = r) : evSs C fs cu (.cons s ss) ρ st = r := by
  rw [ev_ss1, h]; exact k
theorem sq_ret {d : D} (h : evS C fs cu s ρ st = .ret d st1) : evSs C fs cu (.cons s ss) ρ st = .ret d st1 := by rw [ev_ss1, h]; rfl
theorem sq_exc {e : Ex} (h : evS C fs cu s ρ st = .exc e ρ1 st1) : evSs C fs cu (.cons s ss) ρ st = .exc e ρ1 st1 := by rw [ev_ss1, h]; rfl
theorem if_t {c : E} {a b : Ss} {r : SRes} (h : evT C fs cu c ρ st = .ok true st1) (k : evSs C fs cu a ρ st1 = r) : evS C fs cu (.ife c a b) ρ st = r := by rw [ev_if, h]; exact k
theorem if_f {c : E} {a b : Ss} {r : SRes} (h : evT C fs cu c ρ st = .ok false st1) (k : evSs C fs cu b ρ st1 = r) : evS C fs cu (.ife c a b) ρ st = r := by rw [ev_if, h]; exact k
end
theorem blt_len {st : Store} {d : D} {n : Nat} (h : lenD d st = some n) : bltD .blen [d] st = .ok (.int n) st := by simp only [bltD, h]
theorem len_lst {st : Store} {l : Nat} {xs : List D} (h : st[l]? = some (.lst xs)) : bltD .blen [.loc l] st = .ok (.int xs.length) st := blt_len (by simp only [lenD, h])
@[simp] theorem len_tup {st : Store} {xs : List D} : bltD .blen [.tup xs] st = .ok (.int xs.length) st := rfl
theorem len_str {st : Store} {x : Str} (h : x.length ≤ big) : bltD .blen [.str x] st = .ok (.int x.length) st := blt_len (by simp only [lenD, if_pos h])
/-- a comprehension whose items are computed and nothing is laid -/
theorem compL_pure {t : Tg} {elt : Env → M D} {ρ0 : Env} {ws : List (Nat × List D)} {st : Store} (g : D → D) (hw : wOk ws st) : ∀ {xs : List D}, (∀ x ∈ xs, ∃ ρ1, asgTg t x ρ0 = some ρ1 ∧ elt ρ1 st = .ok (g x) st) →
    compL t (fun _ st => .ok (.bl true) st) elt ρ0 ws xs st = .ok (xs.map g) st
  | [], _ => by simp only [compL, if_pos hw]; rfl
  | x :: xs, h => by
    obtain ⟨ρ1, h1, h2⟩ := h x List.mem_cons_self
    have ih := compL_pure g hw (xs := xs) fun y hy => h y (List.mem_cons_of_mem _ hy)
    simp only [compL, if_pos hw, h1, Res.bind_ok, tru_bl, gc_same, h2, ih, List.map_cons]
/-- as an expression -/
theorem ev_comp_pure {C : Orc} {fs : List Fr} {cu : Option Ex} {ρ : Env} {st st1 : Store} {own : List Nat} {t : Tg} {it : It} {elt : E} {xs : List D} {ws : List (Nat × List D)} (g : D → D) (hi : evIt C fs cu it ρ st = .ok (xs, ws) st1) (hz : xs.length ≤ big) (hw : wOk ws st1)
    (h : ∀ x ∈ xs, ∃ ρ1, asgTg t x (wipeE ρ own) = some ρ1 ∧ evE C fs cu elt ρ1 st1 = .ok (g x) st1) : evE C fs cu (.comp own t it (.con (.bl true)) elt) ρ st = .ok (.loc st1.length) (st1 ++ [.lst (xs.map g)]) := by
  rw [ev_comp, hi]
  simp only [Res.bind_ok, if_pos hz]
  have := compL_pure (t := t) (elt := fun ρ1 st => evE C fs cu elt ρ1 st) (ρ0 := wipeE ρ own) g hw h
  simp only [ev_con] at this ⊢
  rw [this]
  rfl
theorem bools_map (f : D → Bool) : ∀ xs : List D, boolsOf (xs.map fun x => .bl (f x)) = some (xs.map f)
  | [] => rfl
  | x :: r => by simp only [List.map_cons, boolsOf, bools_map f r]; rfl
end MM
end

section
set_option Elab.async false
set_option linter.all false
set_option maxRecDepth 100000
/-! ShIr: the forms of defs, printed by m2gen.py. -/
namespace MM.F
open PySem MM
def s_is_whole_1 : S := (.ret (.and (.isin (.v 0) [.int]) (.not (.isin (.v 0) [.bool]))))
def k_is_whole_1 : Ss := (.cons s_is_whole_1 .nil)
def b_is_whole : Ss := k_is_whole_1
def f_is_whole : Fn := ⟨1, 1, b_is_whole, false⟩
class H_is_whole (p : Str → Option Fn) : Prop where
  h : p "is_whole" = some f_is_whole
def s_is_ratio_2 : S := (.ret (.con (.bl true)))
def k_is_ratio_2 : Ss := (.cons s_is_ratio_2 .nil)
def s_is_ratio_1 : S := (.ife (.call "is_whole" (.cons (.v 0) .nil)) k_is_ratio_2 .nil)
def s_is_ratio_4 : S := (.ret (.con (.bl false)))
def k_is_ratio_3 : Ss := (.cons s_is_ratio_4 .nil)
def s_is_ratio_3 : S := (.ife (.or (.not (.isin (.v 0) [.tuple, .list])) (.cmp .NotEq (.blt .blen (.cons (.v 0) .nil)) (.con (.int 2)))) k_is_ratio_3 .nil)
def s_is_ratio_5 : S := (.ret (.and (.call "is_whole" (.cons (.idx (.v 0) (.con (.int 0))) .nil)) (.and (.call "is_whole" (.cons (.idx (.v 0) (.con (.int 1))) .nil)) (.cmp .GtE (.idx (.v 0) (.con (.int 1))) (.con (.int 1))))))
def k_is_ratio_1 : Ss := (.cons s_is_ratio_1 (.cons s_is_ratio_3 (.cons s_is_ratio_5 .nil)))
def b_is_ratio : Ss := k_is_ratio_1
def f_is_ratio : Fn := ⟨1, 1, b_is_ratio, false⟩
class H_is_ratio (p : Str → Option Fn) : Prop where
  h : p "is_ratio" = some f_is_ratio
def s_lowest_1 : S := (.asg 2 (.blt .bgcd (.cons (.v 0) (.cons (.v 1) .nil))))
def s_lowest_2 : S := (.ret (.tup (.cons (.bin .FloorDiv (.v 0) (.v 2)) (.cons (.bin .FloorDiv (.v 1) (.v 2)) .nil))))
def k_lowest_1 : Ss := (.cons s_lowest_1 (.cons s_lowest_2 .nil))
def b_lowest : Ss := k_lowest_1
def f_lowest : Fn := ⟨2, 3, b_lowest, false⟩
class H_lowest (p : Str → Option Fn) : Prop where
  h : p "lowest" = some f_lowest
def s_told_2 : S := (.raise "BadRatio" ["value"] (.cons (.v 0) .nil))
def k_told_2 : Ss := (.cons s_told_2 .nil)
def s_told_1 : S := (.ife (.not (.call "is_ratio" (.cons (.v 0) .nil))) k_told_2 .nil)
def s_told_4 : S := (.ret (.tup (.cons (.v 0) (.cons (.con (.int 1)) .nil))))
def k_told_3 : Ss := (.cons s_told_4 .nil)
def s_told_3 : S := (.ife (.call "is_whole" (.cons (.v 0) .nil)) k_told_3 .nil)
def s_told_5 : S := (.ret (.call "lowest" (.cons (.idx (.v 0) (.con (.int 0))) (.cons (.idx (.v 0) (.con (.int 1))) .nil))))
def k_told_1 : Ss := (.cons s_told_1 (.cons s_told_3 (.cons s_told_5 .nil)))
def b_told : Ss := k_told_1
def f_told : Fn := ⟨1, 1, b_told, false⟩
class H_told (p : Str → Option Fn) : Prop where
  h : p "told" = some f_told
def s_rless_1 : S := (.ret (.cmp .Lt (.bin .Mult (.idx (.v 0) (.con (.int 0))) (.idx (.v 1) (.con (.int 1)))) (.bin .Mult (.idx (.v 1) (.con (.int 0))) (.idx (.v 0) (.con (.int 1))))))
def k_rless_1 : Ss := (.cons s_rless_1 .nil)
def b_rless : Ss := k_rless_1
def f_rless : Fn := ⟨2, 2, b_rless, false⟩
class H_rless (p : Str → Option Fn) : Prop where
  h : p "rless" = some f_rless
def s_is_row_2 : S := (.ret (.con (.bl false)))
def k_is_row_2 : Ss := (.cons s_is_row_2 .nil)
def s_is_row_1 : S := (.ife (.or (.not (.isin (.v 0) [.tuple, .list])) (.cmp .Eq (.blt .blen (.cons (.v 0) .nil)) (.con (.int 0)))) k_is_row_2 .nil)
def c_is_row_1 : E := (.frz (.comp [1] (.n 1) (.e (.v 0)) (.con (.bl true)) (.call "is_ratio" (.cons (.v 1) .nil))))
def s_is_row_3 : S := (.ret (.blt .ball (.cons c_is_row_1 .nil)))
def k_is_row_1 : Ss := (.cons s_is_row_1 (.cons s_is_row_3 .nil))
def b_is_row : Ss := k_is_row_1
def f_is_row : Fn := ⟨1, 2, b_is_row, false⟩
class H_is_row (p : Str → Option Fn) : Prop where
  h : p "is_row" = some f_is_row
def s_is_sheet_2 : S := (.ret (.con (.bl false)))
def k_is_sheet_2 : Ss := (.cons s_is_sheet_2 .nil)
def s_is_sheet_1 : S := (.ife (.or (.not (.isin (.v 0) [.tuple, .list])) (.cmp .Eq (.blt .blen (.cons (.v 0) .nil)) (.con (.int 0)))) k_is_sheet_2 .nil)
def c_is_sheet_1 : E := (.frz (.comp [1] (.n 1) (.e (.v 0)) (.con (.bl true)) (.call "is_row" (.cons (.v 1) .nil))))
def s_is_sheet_4 : S := (.ret (.con (.bl false)))
def k_is_sheet_3 : Ss := (.cons s_is_sheet_4 .nil)
def s_is_sheet_3 : S := (.ife (.not (.blt .ball (.cons c_is_sheet_1 .nil))) k_is_sheet_3 .nil)
def c_is_sheet_2 : E := (.frz (.comp [1] (.n 1) (.e (.v 0)) (.con (.bl true)) (.cmp .Eq (.blt .blen (.cons (.v 1) .nil)) (.blt .blen (.cons (.idx (.v 0) (.con (.int 0))) .nil)))))
def s_is_sheet_5 : S := (.ret (.blt .ball (.cons c_is_sheet_2 .nil)))
def k_is_sheet_1 : Ss := (.cons s_is_sheet_1 (.cons s_is_sheet_3 (.cons s_is_sheet_5 .nil)))
def b_is_sheet : Ss := k_is_sheet_1
def f_is_sheet : Fn := ⟨1, 2, b_is_sheet, false⟩
class H_is_sheet (p : Str → Option Fn) : Prop where
  h : p "is_sheet" = some f_is_sheet
def s_row_told_2 : S := (.raise "BadRow" ["what", "row"] (.cons (.con (.str "row")) (.cons (.v 0) .nil)))
def k_row_told_2 : Ss := (.cons s_row_told_2 .nil)
def s_row_told_1 : S := (.ife (.not (.call "is_row" (.cons (.v 0) .nil))) k_row_told_2 .nil)
def c_row_told_1 : E := (.frz (.comp [1] (.n 1) (.e (.v 0)) (.con (.bl true)) (.call "told" (.cons (.v 1) .nil))))
def s_row_told_3 : S := (.ret (.blt .btuple (.cons c_row_told_1 .nil)))
def k_row_told_1 : Ss := (.cons s_row_told_1 (.cons s_row_told_3 .nil))
def b_row_told : Ss := k_row_told_1
def f_row_told : Fn := ⟨1, 2, b_row_told, false⟩
class H_row_told (p : Str → Option Fn) : Prop where
  h : p "row_told" = some f_row_told
def s_sheet_told_2 : S := (.raise "BadRow" ["what", "row"] (.cons (.con (.str "sheet")) (.cons (.v 0) .nil)))
def k_sheet_told_2 : Ss := (.cons s_sheet_told_2 .nil)
def s_sheet_told_1 : S := (.ife (.not (.call "is_sheet" (.cons (.v 0) .nil))) k_sheet_told_2 .nil)
def c_sheet_told_1 : E := (.frz (.comp [1] (.n 1) (.e (.v 2)) (.con (.bl true)) (.call "told" (.cons (.v 1) .nil))))
def c_sheet_told_2 : E := (.frz (.comp [2] (.n 2) (.e (.v 0)) (.con (.bl true)) (.blt .btuple (.cons c_sheet_told_1 .nil))))
def s_sheet_told_3 : S := (.ret (.blt .btuple (.cons c_sheet_told_2 .nil)))
def k_sheet_told_1 : Ss := (.cons s_sheet_told_1 (.cons s_sheet_told_3 .nil))
def b_sheet_told : Ss := k_sheet_told_1
def f_sheet_told : Fn := ⟨1, 3, b_sheet_told, false⟩
class H_sheet_told (p : Str → Option Fn) : Prop where
  h : p "sheet_told" = some f_sheet_told
def s_dot_raw_1 : S := (.asg 2 (.con (.int 0)))
def s_dot_raw_2 : S := (.asg 3 (.con (.int 1)))
def s_dot_raw_5 : S := (.asg 6 (.bin .Mult (.idx (.v 4) (.con (.int 1))) (.idx (.v 5) (.con (.int 1)))))
def s_dot_raw_6 : S := (.asg 2 (.bin .Add (.bin .Mult (.v 2) (.v 6)) (.bin .Mult (.bin .Mult (.idx (.v 4) (.con (.int 0))) (.idx (.v 5) (.con (.int 0)))) (.v 3))))
def s_dot_raw_7 : S := (.asg 3 (.bin .Mult (.v 3) (.v 6)))
def k_dot_raw_3 : Ss := (.cons s_dot_raw_5 (.cons s_dot_raw_6 (.cons s_dot_raw_7 .nil)))
def s_dot_raw_4 : S := (.ife (.and (.cmp .NotEq (.idx (.v 4) (.con (.int 0))) (.con (.int 0))) (.cmp .NotEq (.idx (.v 5) (.con (.int 0))) (.con (.int 0)))) k_dot_raw_3 .nil)
def k_dot_raw_2 : Ss := (.cons s_dot_raw_4 .nil)
def s_dot_raw_3 : S := (.for (.t [4, 5]) (.zip (.v 0) (.v 1)) k_dot_raw_2)
def s_dot_raw_8 : S := (.ret (.call "lowest" (.cons (.v 2) (.cons (.v 3) .nil))))
def k_dot_raw_1 : Ss := (.cons s_dot_raw_1 (.cons s_dot_raw_2 (.cons s_dot_raw_3 (.cons s_dot_raw_8 .nil))))
def b_dot_raw : Ss := k_dot_raw_1
def f_dot_raw : Fn := ⟨2, 7, b_dot_raw, false⟩
class H_dot_raw (p : Str → Option Fn) : Prop where
  h : p "dot_raw" = some f_dot_raw
def c_product_raw_1 : E := (.frz (.comp [3] (.n 3) (.e (.v 1)) (.con (.bl true)) (.idx (.v 3) (.v 4))))
def c_product_raw_2 : E := (.frz (.comp [4] (.n 4) (.rng1 (.blt .blen (.cons (.idx (.v 1) (.con (.int 0))) .nil))) (.con (.bl true)) c_product_raw_1))
def s_product_raw_1 : S := (.asg 2 c_product_raw_2)
def c_product_raw_3 : E := (.frz (.comp [5] (.n 5) (.e (.v 2)) (.con (.bl true)) (.call "dot_raw" (.cons (.v 3) (.cons (.v 5) .nil)))))
def c_product_raw_4 : E := (.frz (.comp [3] (.n 3) (.e (.v 0)) (.con (.bl true)) (.blt .btuple (.cons c_product_raw_3 .nil))))
def s_product_raw_2 : S := (.ret (.blt .btuple (.cons c_product_raw_4 .nil)))
def k_product_raw_1 : Ss := (.cons s_product_raw_1 (.cons s_product_raw_2 .nil))
def b_product_raw : Ss := k_product_raw_1
def f_product_raw : Fn := ⟨2, 6, b_product_raw, false⟩
class H_product_raw (p : Str → Option Fn) : Prop where
  h : p "product_raw" = some f_product_raw
def c_column_raw_1 : E := (.frz (.comp [2] (.n 2) (.e (.v 0)) (.con (.bl true)) (.call "dot_raw" (.cons (.v 2) (.cons (.v 1) .nil)))))
def s_column_raw_1 : S := (.ret (.blt .btuple (.cons c_column_raw_1 .nil)))
def k_column_raw_1 : Ss := (.cons s_column_raw_1 .nil)
def b_column_raw : Ss := k_column_raw_1
def f_column_raw : Fn := ⟨2, 3, b_column_raw, false⟩
class H_column_raw (p : Str → Option Fn) : Prop where
  h : p "column_raw" = some f_column_raw
def c_row_raw_1 : E := (.frz (.comp [2] (.n 2) (.e (.v 1)) (.con (.bl true)) (.idx (.v 2) (.v 3))))
def c_row_raw_2 : E := (.frz (.comp [3] (.n 3) (.rng1 (.blt .blen (.cons (.idx (.v 1) (.con (.int 0))) .nil))) (.con (.bl true)) (.call "dot_raw" (.cons (.v 0) (.cons c_row_raw_1 .nil)))))
def s_row_raw_1 : S := (.ret (.blt .btuple (.cons c_row_raw_2 .nil)))
def k_row_raw_1 : Ss := (.cons s_row_raw_1 .nil)
def b_row_raw : Ss := k_row_raw_1
def f_row_raw : Fn := ⟨2, 4, b_row_raw, false⟩
class H_row_raw (p : Str → Option Fn) : Prop where
  h : p "row_raw" = some f_row_raw
def s_greatest_1 : S := (.asg 1 (.call "row_told" (.cons (.v 0) .nil)))
def s_greatest_2 : S := (.asg 2 (.idx (.v 1) (.con (.int 0))))
def s_greatest_5 : S := (.asg 2 (.v 3))
def k_greatest_3 : Ss := (.cons s_greatest_5 .nil)
def s_greatest_4 : S := (.ife (.call "rless" (.cons (.v 2) (.cons (.v 3) .nil))) k_greatest_3 .nil)
def k_greatest_2 : Ss := (.cons s_greatest_4 .nil)
def s_greatest_3 : S := (.for (.n 3) (.e (.v 1)) k_greatest_2)
def s_greatest_6 : S := (.ret (.v 2))
def k_greatest_1 : Ss := (.cons s_greatest_1 (.cons s_greatest_2 (.cons s_greatest_3 (.cons s_greatest_6 .nil))))
def b_greatest : Ss := k_greatest_1
def f_greatest : Fn := ⟨1, 4, b_greatest, false⟩
class H_greatest (p : Str → Option Fn) : Prop where
  h : p "greatest" = some f_greatest
def s_least_1 : S := (.asg 1 (.call "row_told" (.cons (.v 0) .nil)))
def s_least_2 : S := (.asg 2 (.idx (.v 1) (.con (.int 0))))
def s_least_5 : S := (.asg 2 (.v 3))
def k_least_3 : Ss := (.cons s_least_5 .nil)
def s_least_4 : S := (.ife (.call "rless" (.cons (.v 3) (.cons (.v 2) .nil))) k_least_3 .nil)
def k_least_2 : Ss := (.cons s_least_4 .nil)
def s_least_3 : S := (.for (.n 3) (.e (.v 1)) k_least_2)
def s_least_6 : S := (.ret (.v 2))
def k_least_1 : Ss := (.cons s_least_1 (.cons s_least_2 (.cons s_least_3 (.cons s_least_6 .nil))))
def b_least : Ss := k_least_1
def f_least : Fn := ⟨1, 4, b_least, false⟩
class H_least (p : Str → Option Fn) : Prop where
  h : p "least" = some f_least
def s_fit_2 : S := (.raise "Unlike" ["what"] (.cons (.con (.str "length")) .nil))
def k_fit_2 : Ss := (.cons s_fit_2 .nil)
def s_fit_1 : S := (.ife (.cmp .NotEq (.v 0) (.v 1)) k_fit_2 .nil)
def k_fit_1 : Ss := (.cons s_fit_1 .nil)
def b_fit : Ss := k_fit_1
def f_fit : Fn := ⟨2, 2, b_fit, false⟩
class H_fit (p : Str → Option Fn) : Prop where
  h : p "fit" = some f_fit
def s_dot_1 : S := (.asg 2 (.call "row_told" (.cons (.v 0) .nil)))
def s_dot_2 : S := (.asg 3 (.call "row_told" (.cons (.v 1) .nil)))
def s_dot_3 : S := (.expr (.call "fit" (.cons (.blt .blen (.cons (.v 2) .nil)) (.cons (.blt .blen (.cons (.v 3) .nil)) .nil))))
def s_dot_4 : S := (.ret (.call "dot_raw" (.cons (.v 2) (.cons (.v 3) .nil))))
def k_dot_1 : Ss := (.cons s_dot_1 (.cons s_dot_2 (.cons s_dot_3 (.cons s_dot_4 .nil))))
def b_dot : Ss := k_dot_1
def f_dot : Fn := ⟨2, 4, b_dot, false⟩
class H_dot (p : Str → Option Fn) : Prop where
  h : p "dot" = some f_dot
def s_times_column_1 : S := (.asg 2 (.call "sheet_told" (.cons (.v 0) .nil)))
def s_times_column_2 : S := (.asg 3 (.call "row_told" (.cons (.v 1) .nil)))
def s_times_column_3 : S := (.expr (.call "fit" (.cons (.blt .blen (.cons (.idx (.v 2) (.con (.int 0))) .nil)) (.cons (.blt .blen (.cons (.v 3) .nil)) .nil))))
def s_times_column_4 : S := (.ret (.call "column_raw" (.cons (.v 2) (.cons (.v 3) .nil))))
def k_times_column_1 : Ss := (.cons s_times_column_1 (.cons s_times_column_2 (.cons s_times_column_3 (.cons s_times_column_4 .nil))))
def b_times_column : Ss := k_times_column_1
def f_times_column : Fn := ⟨2, 4, b_times_column, false⟩
class H_times_column (p : Str → Option Fn) : Prop where
  h : p "times_column" = some f_times_column
def s_row_times_1 : S := (.asg 2 (.call "row_told" (.cons (.v 0) .nil)))
def s_row_times_2 : S := (.asg 3 (.call "sheet_told" (.cons (.v 1) .nil)))
def s_row_times_3 : S := (.expr (.call "fit" (.cons (.blt .blen (.cons (.v 2) .nil)) (.cons (.blt .blen (.cons (.v 3) .nil)) .nil))))
def s_row_times_4 : S := (.ret (.call "row_raw" (.cons (.v 2) (.cons (.v 3) .nil))))
def k_row_times_1 : Ss := (.cons s_row_times_1 (.cons s_row_times_2 (.cons s_row_times_3 (.cons s_row_times_4 .nil))))
def b_row_times : Ss := k_row_times_1
def f_row_times : Fn := ⟨2, 4, b_row_times, false⟩
class H_row_times (p : Str → Option Fn) : Prop where
  h : p "row_times" = some f_row_times
def s_product_1 : S := (.asg 2 (.call "sheet_told" (.cons (.v 0) .nil)))
def s_product_2 : S := (.asg 3 (.call "sheet_told" (.cons (.v 1) .nil)))
def s_product_3 : S := (.expr (.call "fit" (.cons (.blt .blen (.cons (.idx (.v 2) (.con (.int 0))) .nil)) (.cons (.blt .blen (.cons (.v 3) .nil)) .nil))))
def s_product_4 : S := (.ret (.call "product_raw" (.cons (.v 2) (.cons (.v 3) .nil))))
def k_product_1 : Ss := (.cons s_product_1 (.cons s_product_2 (.cons s_product_3 (.cons s_product_4 .nil))))
def b_product : Ss := k_product_1
def f_product : Fn := ⟨2, 4, b_product, false⟩
class H_product (p : Str → Option Fn) : Prop where
  h : p "product" = some f_product
def s__law_pen_1 : S := (.asg 1 (.con (.int 0)))
def s__law_pen_3 : S := (.asg 1 (.bin .Mod (.blt .bint (.cons (.bin .Add (.bin .Mult (.v 1) (.con (.int 59))) (.v 2)) .nil)) (.con (.int 1000000009))))
def k__law_pen_2 : Ss := (.cons s__law_pen_3 .nil)
def s__law_pen_2 : S := (.for (.n 2) (.e (.v 0)) k__law_pen_2)
def s__law_pen_4 : S := (.ret (.dic (.cons (.inr "cells") (.frz (.blt .blist (.cons (.v 0) .nil))) (.cons (.inr "at") (.con (.int 0)) (.cons (.inr "digits") (.con (.int 0)) (.cons (.inr "count") (.con (.int 0)) (.cons (.inr "fold") (.v 1) .nil)))))))
def k__law_pen_1 : Ss := (.cons s__law_pen_1 (.cons s__law_pen_2 (.cons s__law_pen_4 .nil)))
def b__law_pen : Ss := k__law_pen_1
def f__law_pen : Fn := ⟨1, 3, b__law_pen, false⟩
class H__law_pen (p : Str → Option Fn) : Prop where
  h : p "_law_pen" = some f__law_pen
def s__law_draw_1 : S := (.set (.v 0) (.con (.str "count")) (.bin .Add (.idx (.v 0) (.con (.str "count"))) (.con (.int 1))))
def s__law_draw_3 : S := (.asg 2 (.idx (.idx (.v 0) (.con (.str "cells"))) (.idx (.v 0) (.con (.str "at")))))
def s__law_draw_4 : S := (.set (.v 0) (.con (.str "at")) (.bin .Add (.idx (.v 0) (.con (.str "at"))) (.con (.int 1))))
def s__law_draw_6 : S := (.set (.v 0) (.con (.str "digits")) (.bin .Sub (.v 2) (.bin .Pow (.con (.int 10)) (.con (.int 18)))))
def k__law_draw_3 : Ss := (.cons s__law_draw_6 .nil)
def s__law_draw_7 : S := (.set (.v 0) (.con (.str "fold")) (.bin .Mod (.blt .bint (.cons (.bin .Add (.bin .Mult (.idx (.v 0) (.con (.str "fold"))) (.con (.int 48271))) (.v 2)) .nil)) (.con (.int 2147483563))))
def k__law_draw_4 : Ss := (.cons s__law_draw_7 .nil)
def s__law_draw_5 : S := (.ife (.cmp .GtE (.v 2) (.bin .Pow (.con (.int 10)) (.con (.int 18)))) k__law_draw_3 k__law_draw_4)
def k__law_draw_2 : Ss := (.cons s__law_draw_3 (.cons s__law_draw_4 (.cons s__law_draw_5 .nil)))
def s__law_draw_2 : S := (.ife (.and (.cmp .Eq (.idx (.v 0) (.con (.str "digits"))) (.con (.int 0))) (.cmp .Lt (.idx (.v 0) (.con (.str "at"))) (.blt .blen (.cons (.idx (.v 0) (.con (.str "cells"))) .nil)))) k__law_draw_2 .nil)
def s__law_draw_9 : S := (.asg 3 (.bin .Mod (.blt .bint (.cons (.idx (.v 0) (.con (.str "digits"))) .nil)) (.v 1)))
def s__law_draw_10 : S := (.set (.v 0) (.con (.str "digits")) (.bin .FloorDiv (.idx (.v 0) (.con (.str "digits"))) (.v 1)))
def s__law_draw_11 : S := (.ret (.v 3))
def k__law_draw_5 : Ss := (.cons s__law_draw_9 (.cons s__law_draw_10 (.cons s__law_draw_11 .nil)))
def s__law_draw_8 : S := (.ife (.cmp .Gt (.idx (.v 0) (.con (.str "digits"))) (.con (.int 0))) k__law_draw_5 .nil)
def s__law_draw_12 : S := (.asg 4 (.bin .Add (.bin .Add (.idx (.v 0) (.con (.str "fold"))) (.bin .Mult (.idx (.v 0) (.con (.str "count"))) (.con (.int 8513)))) (.con (.int 61))))
def s__law_draw_13 : S := (.ret (.bin .Mod (.bin .FloorDiv (.blt .bint (.cons (.bin .Mod (.bin .Pow (.v 4) (.con (.int 19))) (.con (.int 2305843009213693951))) .nil)) (.con (.int 256))) (.v 1)))
def k__law_draw_1 : Ss := (.cons s__law_draw_1 (.cons s__law_draw_2 (.cons s__law_draw_8 (.cons s__law_draw_12 (.cons s__law_draw_13 .nil)))))
def b__law_draw : Ss := k__law_draw_1
def f__law_draw : Fn := ⟨2, 5, b__law_draw, false⟩
class H__law_draw (p : Str → Option Fn) : Prop where
  h : p "_law_draw" = some f__law_draw
def s__law_pick_1 : S := (.ret (.idx (.v 1) (.call "_law_draw" (.cons (.v 0) (.cons (.blt .blen (.cons (.v 1) .nil)) .nil)))))
def k__law_pick_1 : Ss := (.cons s__law_pick_1 .nil)
def b__law_pick : Ss := k__law_pick_1
def f__law_pick : Fn := ⟨2, 2, b__law_pick, false⟩
class H__law_pick (p : Str → Option Fn) : Prop where
  h : p "_law_pick" = some f__law_pick
def s__law_is_int_1 : S := (.ret (.and (.isin (.v 0) [.int]) (.not (.isin (.v 0) [.bool]))))
def k__law_is_int_1 : Ss := (.cons s__law_is_int_1 .nil)
def b__law_is_int : Ss := k__law_is_int_1
def f__law_is_int : Fn := ⟨1, 1, b__law_is_int, false⟩
class H__law_is_int (p : Str → Option Fn) : Prop where
  h : p "_law_is_int" = some f__law_is_int
def s__law_gcd_1 : S := (.par [0, 1] (.cons (.blt .babs (.cons (.v 0) .nil)) (.cons (.blt .babs (.cons (.v 1) .nil)) .nil)))
def s__law_gcd_3 : S := (.par [0, 1] (.cons (.v 1) (.cons (.bin .Mod (.blt .bint (.cons (.v 0) .nil)) (.v 1)) .nil)))
def k__law_gcd_2 : Ss := (.cons s__law_gcd_3 .nil)
def s__law_gcd_2 : S := (.whl (.cmp .Gt (.v 1) (.con (.int 0))) k__law_gcd_2)
def s__law_gcd_4 : S := (.ret (.v 0))
def k__law_gcd_1 : Ss := (.cons s__law_gcd_1 (.cons s__law_gcd_2 (.cons s__law_gcd_4 .nil)))
def b__law_gcd : Ss := k__law_gcd_1
def f__law_gcd : Fn := ⟨2, 2, b__law_gcd, false⟩
class H__law_gcd (p : Str → Option Fn) : Prop where
  h : p "_law_gcd" = some f__law_gcd
def s__law_low_1 : S := (.asg 2 (.call "_law_gcd" (.cons (.v 0) (.cons (.v 1) .nil))))
def s__law_low_2 : S := (.ret (.tup (.cons (.bin .FloorDiv (.v 0) (.v 2)) (.cons (.bin .FloorDiv (.v 1) (.v 2)) .nil))))
def k__law_low_1 : Ss := (.cons s__law_low_1 (.cons s__law_low_2 .nil))
def b__law_low : Ss := k__law_low_1
def f__law_low : Fn := ⟨2, 3, b__law_low, false⟩
class H__law_low (p : Str → Option Fn) : Prop where
  h : p "_law_low" = some f__law_low
def s__law_add_1 : S := (.ret (.call "_law_low" (.cons (.bin .Add (.bin .Mult (.idx (.v 0) (.con (.int 0))) (.idx (.v 1) (.con (.int 1)))) (.bin .Mult (.idx (.v 1) (.con (.int 0))) (.idx (.v 0) (.con (.int 1))))) (.cons (.bin .Mult (.idx (.v 0) (.con (.int 1))) (.idx (.v 1) (.con (.int 1)))) .nil))))
def k__law_add_1 : Ss := (.cons s__law_add_1 .nil)
def b__law_add : Ss := k__law_add_1
def f__law_add : Fn := ⟨2, 2, b__law_add, false⟩
class H__law_add (p : Str → Option Fn) : Prop where
  h : p "_law_add" = some f__law_add
def s__law_mul_1 : S := (.ret (.call "_law_low" (.cons (.bin .Mult (.idx (.v 0) (.con (.int 0))) (.idx (.v 1) (.con (.int 0)))) (.cons (.bin .Mult (.idx (.v 0) (.con (.int 1))) (.idx (.v 1) (.con (.int 1)))) .nil))))
def k__law_mul_1 : Ss := (.cons s__law_mul_1 .nil)
def b__law_mul : Ss := k__law_mul_1
def f__law_mul : Fn := ⟨2, 2, b__law_mul, false⟩
class H__law_mul (p : Str → Option Fn) : Prop where
  h : p "_law_mul" = some f__law_mul
def s__law_less_1 : S := (.ret (.cmp .Lt (.bin .Mult (.idx (.v 0) (.con (.int 0))) (.idx (.v 1) (.con (.int 1)))) (.bin .Mult (.idx (.v 1) (.con (.int 0))) (.idx (.v 0) (.con (.int 1))))))
def k__law_less_1 : Ss := (.cons s__law_less_1 .nil)
def b__law_less : Ss := k__law_less_1
def f__law_less : Fn := ⟨2, 2, b__law_less, false⟩
class H__law_less (p : Str → Option Fn) : Prop where
  h : p "_law_less" = some f__law_less
def s__law_is_pair_2 : S := (.ret (.con (.bl false)))
def k__law_is_pair_2 : Ss := (.cons s__law_is_pair_2 .nil)
def s__law_is_pair_1 : S := (.ife (.or (.not (.isin (.v 0) [.tuple])) (.cmp .NotEq (.blt .blen (.cons (.v 0) .nil)) (.con (.int 2)))) k__law_is_pair_2 .nil)
def s__law_is_pair_4 : S := (.ret (.con (.bl false)))
def k__law_is_pair_3 : Ss := (.cons s__law_is_pair_4 .nil)
def s__law_is_pair_3 : S := (.ife (.or (.not (.call "_law_is_int" (.cons (.idx (.v 0) (.con (.int 0))) .nil))) (.not (.call "_law_is_int" (.cons (.idx (.v 0) (.con (.int 1))) .nil)))) k__law_is_pair_3 .nil)
def s__law_is_pair_5 : S := (.ret (.and (.cmp .GtE (.idx (.v 0) (.con (.int 1))) (.con (.int 1))) (.cmp .Eq (.call "_law_gcd" (.cons (.idx (.v 0) (.con (.int 0))) (.cons (.idx (.v 0) (.con (.int 1))) .nil))) (.con (.int 1)))))
def k__law_is_pair_1 : Ss := (.cons s__law_is_pair_1 (.cons s__law_is_pair_3 (.cons s__law_is_pair_5 .nil)))
def b__law_is_pair : Ss := k__law_is_pair_1
def f__law_is_pair : Fn := ⟨1, 1, b__law_is_pair, false⟩
class H__law_is_pair (p : Str → Option Fn) : Prop where
  h : p "_law_is_pair" = some f__law_is_pair
def c__law_is_told_row_1 : E := (.frz (.comp [2] (.n 2) (.e (.v 0)) (.con (.bl true)) (.call "_law_is_pair" (.cons (.v 2) .nil))))
def s__law_is_told_row_1 : S := (.ret (.and (.isin (.v 0) [.tuple]) (.and (.cmp .Eq (.blt .blen (.cons (.v 0) .nil)) (.v 1)) (.blt .ball (.cons c__law_is_told_row_1 .nil)))))
def k__law_is_told_row_1 : Ss := (.cons s__law_is_told_row_1 .nil)
def b__law_is_told_row : Ss := k__law_is_told_row_1
def f__law_is_told_row : Fn := ⟨2, 3, b__law_is_told_row, false⟩
class H__law_is_told_row (p : Str → Option Fn) : Prop where
  h : p "_law_is_told_row" = some f__law_is_told_row
def s__law_dot_1 : S := (.asgT [2, 3] (.tup (.cons (.con (.int 0)) (.cons (.con (.int 1)) .nil))))
def s__law_dot_4 : S := (.asg 6 (.bin .Mult (.idx (.v 4) (.con (.int 1))) (.idx (.v 5) (.con (.int 1)))))
def s__law_dot_5 : S := (.par [2, 3] (.cons (.bin .Add (.bin .Mult (.v 2) (.v 6)) (.bin .Mult (.bin .Mult (.idx (.v 4) (.con (.int 0))) (.idx (.v 5) (.con (.int 0)))) (.v 3))) (.cons (.bin .Mult (.v 3) (.v 6)) .nil)))
def k__law_dot_3 : Ss := (.cons s__law_dot_4 (.cons s__law_dot_5 .nil))
def s__law_dot_3 : S := (.ife (.and (.cmp .NotEq (.idx (.v 4) (.con (.int 0))) (.con (.int 0))) (.cmp .NotEq (.idx (.v 5) (.con (.int 0))) (.con (.int 0)))) k__law_dot_3 .nil)
def k__law_dot_2 : Ss := (.cons s__law_dot_3 .nil)
def s__law_dot_2 : S := (.for (.t [4, 5]) (.zip (.v 0) (.v 1)) k__law_dot_2)
def s__law_dot_6 : S := (.ret (.call "_law_low" (.cons (.v 2) (.cons (.v 3) .nil))))
def k__law_dot_1 : Ss := (.cons s__law_dot_1 (.cons s__law_dot_2 (.cons s__law_dot_6 .nil)))
def b__law_dot : Ss := k__law_dot_1
def f__law_dot : Fn := ⟨2, 7, b__law_dot, false⟩
class H__law_dot (p : Str → Option Fn) : Prop where
  h : p "_law_dot" = some f__law_dot
def c__law_product_1 : E := (.frz (.comp [3] (.n 3) (.e (.v 1)) (.con (.bl true)) (.idx (.v 3) (.v 4))))
def c__law_product_2 : E := (.frz (.comp [4] (.n 4) (.rng1 (.blt .blen (.cons (.idx (.v 1) (.con (.int 0))) .nil))) (.con (.bl true)) c__law_product_1))
def s__law_product_1 : S := (.asg 2 c__law_product_2)
def c__law_product_3 : E := (.frz (.comp [5] (.n 5) (.e (.v 2)) (.con (.bl true)) (.call "_law_dot" (.cons (.v 3) (.cons (.v 5) .nil)))))
def c__law_product_4 : E := (.frz (.comp [3] (.n 3) (.e (.v 0)) (.con (.bl true)) (.blt .btuple (.cons c__law_product_3 .nil))))
def s__law_product_2 : S := (.ret (.blt .btuple (.cons c__law_product_4 .nil)))
def k__law_product_1 : Ss := (.cons s__law_product_1 (.cons s__law_product_2 .nil))
def b__law_product : Ss := k__law_product_1
def f__law_product : Fn := ⟨2, 6, b__law_product, false⟩
class H__law_product (p : Str → Option Fn) : Prop where
  h : p "_law_product" = some f__law_product
def s__law_loose_1 : S := (.asg 2 (.call "_law_draw" (.cons (.v 0) (.cons (.con (.int 5)) .nil))))
def s__law_loose_3 : S := (.ret (.idx (.v 1) (.con (.int 0))))
def k__law_loose_2 : Ss := (.cons s__law_loose_3 .nil)
def s__law_loose_2 : S := (.ife (.and (.cmp .Eq (.v 2) (.con (.int 0))) (.cmp .Eq (.idx (.v 1) (.con (.int 1))) (.con (.int 1)))) k__law_loose_2 .nil)
def s__law_loose_5 : S := (.asg 3 (.bin .Add (.con (.int 2)) (.call "_law_draw" (.cons (.v 0) (.cons (.con (.int 5)) .nil)))))
def s__law_loose_6 : S := (.ret (.tup (.cons (.bin .Mult (.idx (.v 1) (.con (.int 0))) (.v 3)) (.cons (.bin .Mult (.idx (.v 1) (.con (.int 1))) (.v 3)) .nil))))
def k__law_loose_3 : Ss := (.cons s__law_loose_5 (.cons s__law_loose_6 .nil))
def s__law_loose_4 : S := (.ife (.cmp .Eq (.v 2) (.con (.int 1))) k__law_loose_3 .nil)
def s__law_loose_7 : S := (.ret (.ite (.cmp .Eq (.v 2) (.con (.int 2))) (.frz (.lst (.cons (.idx (.v 1) (.con (.int 0))) (.cons (.idx (.v 1) (.con (.int 1))) .nil)))) (.v 1)))
def k__law_loose_1 : Ss := (.cons s__law_loose_1 (.cons s__law_loose_2 (.cons s__law_loose_4 (.cons s__law_loose_7 .nil))))
def b__law_loose : Ss := k__law_loose_1
def f__law_loose : Fn := ⟨2, 4, b__law_loose, false⟩
class H__law_loose (p : Str → Option Fn) : Prop where
  h : p "_law_loose" = some f__law_loose
def s__law_loose_rows_1 : S := (.asg 2 (.call "_law_draw" (.cons (.v 0) (.cons (.con (.int 3)) .nil))))
def c__law_loose_rows_1 : E := (.frz (.comp [4] (.n 4) (.e (.v 5)) (.con (.bl true)) (.call "_law_loose" (.cons (.v 0) (.cons (.v 4) .nil)))))
def c__law_loose_rows_2 : E := (.frz (.comp [4] (.n 4) (.e (.v 5)) (.con (.bl true)) (.call "_law_loose" (.cons (.v 0) (.cons (.v 4) .nil)))))
def c__law_loose_rows_3 : E := (.frz (.comp [5] (.n 5) (.e (.v 1)) (.con (.bl true)) (.ite (.cmp .Eq (.v 2) (.con (.int 1))) c__law_loose_rows_1 (.blt .btuple (.cons c__law_loose_rows_2 .nil)))))
def s__law_loose_rows_2 : S := (.asg 3 c__law_loose_rows_3)
def s__law_loose_rows_3 : S := (.ret (.ite (.cmp .Eq (.v 2) (.con (.int 1))) (.v 3) (.blt .btuple (.cons (.v 3) .nil))))
def k__law_loose_rows_1 : Ss := (.cons s__law_loose_rows_1 (.cons s__law_loose_rows_2 (.cons s__law_loose_rows_3 .nil)))
def b__law_loose_rows : Ss := k__law_loose_rows_1
def f__law_loose_rows : Fn := ⟨2, 6, b__law_loose_rows, false⟩
class H__law_loose_rows (p : Str → Option Fn) : Prop where
  h : p "_law_loose_rows" = some f__law_loose_rows
def s__law_ratio_1 : S := (.asg 1 (.call "_law_draw" (.cons (.v 0) (.cons (.con (.int 6)) .nil))))
def s__law_ratio_3 : S := (.ret (.tup (.cons (.bin .Sub (.call "_law_draw" (.cons (.v 0) (.cons (.con (.int 3)) .nil))) (.con (.int 1))) (.cons (.con (.int 1)) .nil))))
def k__law_ratio_2 : Ss := (.cons s__law_ratio_3 .nil)
def s__law_ratio_2 : S := (.ife (.cmp .Eq (.v 1) (.con (.int 0))) k__law_ratio_2 .nil)
def s__law_ratio_4 : S := (.asg 2 (.call "_law_pick" (.cons (.v 0) (.cons (.frz (.lst (.cons (.con (.int 4)) (.cons (.con (.int 9)) (.cons (.con (.int 9)) (.cons (.bin .Pow (.con (.int 10)) (.con (.int 12))) .nil)))))) .nil))))
def s__law_ratio_5 : S := (.asg 3 (.bin .Sub (.call "_law_draw" (.cons (.v 0) (.cons (.bin .Sub (.bin .Mult (.con (.int 2)) (.v 2)) (.con (.int 1))) .nil))) (.bin .Sub (.v 2) (.con (.int 1)))))
def s__law_ratio_6 : S := (.ret (.call "_law_low" (.cons (.v 3) (.cons (.ite (.cmp .Eq (.v 1) (.con (.int 1))) (.con (.int 1)) (.bin .Add (.con (.int 1)) (.call "_law_draw" (.cons (.v 0) (.cons (.bin .Sub (.v 2) (.con (.int 1))) .nil))))) .nil))))
def k__law_ratio_1 : Ss := (.cons s__law_ratio_1 (.cons s__law_ratio_2 (.cons s__law_ratio_4 (.cons s__law_ratio_5 (.cons s__law_ratio_6 .nil)))))
def b__law_ratio : Ss := k__law_ratio_1
def f__law_ratio : Fn := ⟨1, 4, b__law_ratio, false⟩
class H__law_ratio (p : Str → Option Fn) : Prop where
  h : p "_law_ratio" = some f__law_ratio
def s__law_sheet_1 : S := (.asg 3 (.lst .nil))
def c__law_sheet_1 : E := (.frz (.comp [6] (.n 6) (.rng1 (.v 2)) (.con (.bl true)) (.call "_law_pick" (.cons (.v 0) (.cons (.frz (.lst (.cons (.tup (.cons (.con (.int 0)) (.cons (.con (.int 1)) .nil))) (.cons (.tup (.cons (.con (.int 0)) (.cons (.con (.int 1)) .nil))) (.cons (.tup (.cons (.con (.int 1)) (.cons (.con (.int 1)) .nil))) (.cons (.call "_law_ratio" (.cons (.v 0) .nil)) .nil)))))) .nil)))))
def s__law_sheet_3 : S := (.asg 5 c__law_sheet_1)
def s__law_sheet_5 : S := (.asgT [7, 8] (.tup (.cons (.call "_law_pick" (.cons (.v 0) (.cons (.frz (.lst (.cons (.tup (.cons (.con (.int 1)) (.cons (.con (.int 1)) .nil))) (.cons (.tup (.cons (.neg (.con (.int 2))) (.cons (.con (.int 1)) .nil))) (.cons (.tup (.cons (.con (.int 1)) (.cons (.con (.int 3)) .nil))) (.cons (.tup (.cons (.neg (.con (.int 5))) (.cons (.con (.int 2)) .nil))) (.cons (.tup (.cons (.con (.int 0)) (.cons (.con (.int 1)) .nil))) .nil))))))) .nil))) (.cons (.call "_law_pick" (.cons (.v 0) (.cons (.v 3) .nil))) .nil))))
def c__law_sheet_2 : E := (.frz (.comp [9, 10] (.t [9, 10]) (.zip (.v 8) (.v 5)) (.con (.bl true)) (.ite (.cmp .Eq (.call "_law_draw" (.cons (.v 0) (.cons (.con (.int 6)) .nil))) (.con (.int 0))) (.call "_law_add" (.cons (.call "_law_mul" (.cons (.v 7) (.cons (.v 9) .nil))) (.cons (.v 10) .nil))) (.call "_law_mul" (.cons (.v 7) (.cons (.v 9) .nil))))))
def s__law_sheet_6 : S := (.asg 5 c__law_sheet_2)
def k__law_sheet_3 : Ss := (.cons s__law_sheet_5 (.cons s__law_sheet_6 .nil))
def s__law_sheet_4 : S := (.ife (.and (.cmp .Gt (.v 4) (.con (.int 0))) (.cmp .Eq (.call "_law_draw" (.cons (.v 0) (.cons (.con (.int 3)) .nil))) (.con (.int 0)))) k__law_sheet_3 .nil)
def s__law_sheet_7 : S := (.expr (.meth .append (.v 3) (.cons (.blt .btuple (.cons (.v 5) .nil)) .nil)))
def k__law_sheet_2 : Ss := (.cons s__law_sheet_3 (.cons s__law_sheet_4 (.cons s__law_sheet_7 .nil)))
def s__law_sheet_2 : S := (.for (.n 4) (.rng1 (.v 1)) k__law_sheet_2)
def s__law_sheet_8 : S := (.ret (.blt .btuple (.cons (.v 3) .nil)))
def k__law_sheet_1 : Ss := (.cons s__law_sheet_1 (.cons s__law_sheet_2 (.cons s__law_sheet_8 .nil)))
def b__law_sheet : Ss := k__law_sheet_1
def f__law_sheet : Fn := ⟨3, 11, b__law_sheet, false⟩
class H__law_sheet (p : Str → Option Fn) : Prop where
  h : p "_law_sheet" = some f__law_sheet
def s__law_odd_row_1 : S := (.asg 2 (.call "_law_draw" (.cons (.v 0) (.cons (.con (.int 4)) .nil))))
def s__law_odd_row_3 : S := (.asg 3 (.call "_law_draw" (.cons (.v 0) (.cons (.blt .blen (.cons (.v 1) .nil)) .nil))))
def s__law_odd_row_4 : S := (.asg 4 (.call "_law_pick" (.cons (.v 0) (.cons (.frz (.lst (.cons (.con (.bl true)) (.cons (.con .non) (.cons (.con (.str "1")) (.cons (.tup (.cons (.con (.int 1)) (.cons (.con (.int 0)) .nil))) (.cons (.tup (.cons (.con (.int 1)) (.cons (.neg (.con (.int 1))) .nil))) (.cons (.tup (.cons (.con (.int 1)) .nil)) (.cons (.frz (.lst (.cons (.con (.int 2)) (.cons (.con (.bl false)) .nil)))) .nil))))))))) .nil))))
def s__law_odd_row_5 : S := (.asg 5 (.bin .Add (.bin .Add (.blt .btuple (.cons (.frz (.sl (.v 1) .omit (.v 3))) .nil)) (.tup (.cons (.v 4) .nil))) (.blt .btuple (.cons (.frz (.sl (.v 1) (.bin .Add (.v 3) (.con (.int 1))) .omit)) .nil))))
def s__law_odd_row_6 : S := (.ret (.ite (.cmp .Eq (.v 2) (.con (.int 0))) (.v 5) (.frz (.blt .blist (.cons (.v 5) .nil)))))
def k__law_odd_row_2 : Ss := (.cons s__law_odd_row_3 (.cons s__law_odd_row_4 (.cons s__law_odd_row_5 (.cons s__law_odd_row_6 .nil))))
def s__law_odd_row_2 : S := (.ife (.cmp .Lt (.v 2) (.con (.int 2))) k__law_odd_row_2 .nil)
def s__law_odd_row_7 : S := (.ret (.call "_law_pick" (.cons (.v 0) (.cons (.frz (.lst (.cons (.tup .nil) (.cons (.frz (.lst .nil)) (.cons (.con .non) (.cons (.con (.int 7)) (.cons (.con (.str "12")) (.cons (.dic (.cons (.inl 0) (.tup (.cons (.con (.int 1)) (.cons (.con (.int 1)) .nil))) .nil)) .nil)))))))) .nil))))
def k__law_odd_row_1 : Ss := (.cons s__law_odd_row_1 (.cons s__law_odd_row_2 (.cons s__law_odd_row_7 .nil)))
def b__law_odd_row : Ss := k__law_odd_row_1
def f__law_odd_row : Fn := ⟨2, 6, b__law_odd_row, false⟩
class H__law_odd_row (p : Str → Option Fn) : Prop where
  h : p "_law_odd_row" = some f__law_odd_row
def s__law_odd_sheet_1 : S := (.par [2, 3] (.cons (.call "_law_draw" (.cons (.v 0) (.cons (.con (.int 4)) .nil))) (.cons (.call "_law_draw" (.cons (.v 0) (.cons (.blt .blen (.cons (.v 1) .nil)) .nil))) .nil)))
def s__law_odd_sheet_3 : S := (.ret (.bin .Add (.bin .Add (.frz (.sl (.v 1) .omit (.v 3))) (.tup (.cons (.call "_law_odd_row" (.cons (.v 0) (.cons (.idx (.v 1) (.v 3)) .nil))) .nil))) (.frz (.sl (.v 1) (.bin .Add (.v 3) (.con (.int 1))) .omit))))
def k__law_odd_sheet_2 : Ss := (.cons s__law_odd_sheet_3 .nil)
def s__law_odd_sheet_2 : S := (.ife (.cmp .Eq (.v 2) (.con (.int 0))) k__law_odd_sheet_2 .nil)
def s__law_odd_sheet_5 : S := (.ret (.bin .Add (.bin .Add (.frz (.sl (.v 1) .omit (.v 3))) (.tup (.cons (.bin .Add (.idx (.v 1) (.v 3)) (.tup (.cons (.tup (.cons (.con (.int 0)) (.cons (.con (.int 1)) .nil))) .nil))) .nil))) (.frz (.sl (.v 1) (.bin .Add (.v 3) (.con (.int 1))) .omit))))
def k__law_odd_sheet_3 : Ss := (.cons s__law_odd_sheet_5 .nil)
def s__law_odd_sheet_4 : S := (.ife (.and (.cmp .Eq (.v 2) (.con (.int 1))) (.cmp .Gt (.blt .blen (.cons (.v 1) .nil)) (.con (.int 1)))) k__law_odd_sheet_3 .nil)
def s__law_odd_sheet_7 : S := (.ret (.frz (.bin .Add (.frz (.bin .Add (.frz (.blt .blist (.cons (.frz (.sl (.v 1) .omit (.v 3))) .nil))) (.frz (.lst (.cons (.frz (.sl (.idx (.v 1) (.v 3)) .omit (.neg (.con (.int 1))))) .nil))))) (.frz (.blt .blist (.cons (.frz (.sl (.v 1) (.bin .Add (.v 3) (.con (.int 1))) .omit)) .nil))))))
def k__law_odd_sheet_4 : Ss := (.cons s__law_odd_sheet_7 .nil)
def s__law_odd_sheet_6 : S := (.ife (.and (.cmp .Eq (.v 2) (.con (.int 2))) (.and (.cmp .Gt (.blt .blen (.cons (.v 1) .nil)) (.con (.int 1))) (.cmp .Gt (.blt .blen (.cons (.idx (.v 1) (.con (.int 0))) .nil)) (.con (.int 1))))) k__law_odd_sheet_4 .nil)
def s__law_odd_sheet_8 : S := (.ret (.call "_law_pick" (.cons (.v 0) (.cons (.frz (.lst (.cons (.tup .nil) (.cons (.frz (.lst .nil)) (.cons (.con .non) (.cons (.con (.int 3)) (.cons (.con (.str "rows")) (.cons (.tup (.cons (.con (.int 1)) (.cons (.con (.int 2)) .nil))) (.cons (.tup (.cons (.tup .nil) .nil)) .nil))))))))) .nil))))
def k__law_odd_sheet_1 : Ss := (.cons s__law_odd_sheet_1 (.cons s__law_odd_sheet_2 (.cons s__law_odd_sheet_4 (.cons s__law_odd_sheet_6 (.cons s__law_odd_sheet_8 .nil)))))
def b__law_odd_sheet : Ss := k__law_odd_sheet_1
def f__law_odd_sheet : Fn := ⟨2, 4, b__law_odd_sheet, false⟩
class H__law_odd_sheet (p : Str → Option Fn) : Prop where
  h : p "_law_odd_sheet" = some f__law_odd_sheet
def s__law_fault_2 : S := (.expr .callv)
def k__law_fault_2 : Ss := (.cons s__law_fault_2 .nil)
def s__law_fault_3 : S := (.ret (.tup (.cons (.con (.str "unlike")) (.cons (.exF "what") .nil))))
def k__law_fault_3 : Ss := (.cons s__law_fault_3 .nil)
def s__law_fault_4 : S := (.ret (.tup (.cons (.con (.str "row")) (.cons (.exF "what") (.cons (.blt .brepr (.cons (.exF "row") .nil)) .nil)))))
def k__law_fault_4 : Ss := (.cons s__law_fault_4 .nil)
def s__law_fault_1 : S := (.try k__law_fault_2 (.cons ["BadRow"] (some 1) k__law_fault_4 (.cons ["Unlike"] (some 1) k__law_fault_3 .nil)))
def s__law_fault_5 : S := (.ret (.con .non))
def k__law_fault_1 : Ss := (.cons s__law_fault_1 (.cons s__law_fault_5 .nil))
def b__law_fault : Ss := k__law_fault_1
def f__law_fault : Fn := ⟨1, 2, b__law_fault, true⟩
class H__law_fault (p : Str → Option Fn) : Prop where
  h : p "_law_fault" = some f__law_fault
def c__law_row_1 : E := (.frz (.comp [2] (.n 2) (.rng1 (.v 1)) (.con (.bl true)) (.call "_law_ratio" (.cons (.v 0) .nil))))
def s__law_row_1 : S := (.ret (.blt .btuple (.cons c__law_row_1 .nil)))
def k__law_row_1 : Ss := (.cons s__law_row_1 .nil)
def b__law_row : Ss := k__law_row_1
def f__law_row : Fn := ⟨2, 3, b__law_row, false⟩
class H__law_row (p : Str → Option Fn) : Prop where
  h : p "_law_row" = some f__law_row
def s__law_first_1 : S := (.ret (.tup (.cons (.con (.str "row")) (.cons (.v 1) (.cons (.blt .brepr (.cons (.v 0) .nil)) .nil)))))
def k__law_first_1 : Ss := (.cons s__law_first_1 .nil)
def b__law_first : Ss := k__law_first_1
def f__law_first : Fn := ⟨2, 2, b__law_first, false⟩
class H__law_first (p : Str → Option Fn) : Prop where
  h : p "_law_first" = some f__law_first
def s_law_1 : S := (.asg 1 (.call "_law_pen" (.cons (.v 0) .nil)))
def s_law_2 : S := (.asgT [2, 3, 4] (.call "_law_pick" (.cons (.v 1) (.cons (.frz (.lst (.cons (.tup (.cons (.con (.int 2)) (.cons (.con (.int 3)) (.cons (.con (.int 2)) .nil)))) (.cons (.tup (.cons (.con (.int 1)) (.cons (.con (.int 1)) (.cons (.con (.int 1)) .nil)))) (.cons (.tup (.cons (.con (.int 3)) (.cons (.con (.int 2)) (.cons (.con (.int 4)) .nil)))) (.cons (.tup (.cons (.con (.int 6)) (.cons (.con (.int 6)) (.cons (.con (.int 2)) .nil)))) (.cons (.tup (.cons (.con (.int 12)) (.cons (.con (.int 3)) (.cons (.con (.int 1)) .nil)))) (.cons (.tup (.cons (.con (.int 4)) (.cons (.con (.int 5)) (.cons (.con (.int 3)) .nil)))) .nil)))))))) .nil))))
def s_law_3 : S := (.asgT [5, 6] (.tup (.cons (.call "_law_sheet" (.cons (.v 1) (.cons (.v 2) (.cons (.v 3) .nil)))) (.cons (.call "_law_sheet" (.cons (.v 1) (.cons (.v 3) (.cons (.v 4) .nil)))) .nil))))
def s_law_4 : S := (.asgT [7, 8] (.tup (.cons (.call "_law_row" (.cons (.v 1) (.cons (.v 2) .nil))) (.cons (.call "_law_row" (.cons (.v 1) (.cons (.v 3) .nil))) .nil))))
def c_law_1 : E := (.frz (.comp [11] (.n 11) (.e (.v 5)) (.con (.bl true)) (.frz (.blt .blist (.cons (.v 11) .nil)))))
def c_law_2 : E := (.frz (.comp [11] (.n 11) (.e (.v 5)) (.con (.bl true)) (.frz (.blt .blist (.cons (.v 11) .nil)))))
def s_law_5 : S := (.par [9, 10] (.cons c_law_1 (.cons c_law_2 .nil)))
def s_law_6 : S := (.par [12, 13] (.cons (.idx (.v 7) (.con (.int 0))) (.cons (.idx (.v 7) (.con (.int 0))) .nil)))
def s_law_8 : S := (.asg 12 (.ite (.call "_law_less" (.cons (.v 12) (.cons (.v 14) .nil))) (.v 14) (.v 12)))
def s_law_9 : S := (.asg 13 (.ite (.call "_law_less" (.cons (.v 14) (.cons (.v 13) .nil))) (.v 14) (.v 13)))
def k_law_2 : Ss := (.cons s_law_8 (.cons s_law_9 .nil))
def s_law_7 : S := (.for (.n 14) (.e (.v 7)) k_law_2)
def s_law_10 : S := (.asg 15 (.idx (.call "_law_loose_rows" (.cons (.v 1) (.cons (.tup (.cons (.v 7) .nil)) .nil))) (.con (.int 0))))
def s_law_12 : S := (.ret (.con (.bl false)))
def k_law_3 : Ss := (.cons s_law_12 .nil)
def s_law_11 : S := (.ife (.or (.cmp .NotEq (.call "greatest" (.cons (.v 15) .nil)) (.v 12)) (.or (.cmp .NotEq (.call "least" (.cons (.v 15) .nil)) (.v 13)) (.not (.call "_law_is_told_row" (.cons (.tup (.cons (.call "greatest" (.cons (.v 7) .nil)) (.cons (.call "least" (.cons (.v 7) .nil)) .nil))) (.cons (.con (.int 2)) .nil)))))) k_law_3 .nil)
def c_law_3 : E := (.frz (.comp [11] (.n 11) (.e (.v 5)) (.con (.bl true)) (.idx (.v 11) (.v 17))))
def c_law_4 : E := (.frz (.comp [17] (.n 17) (.rng1 (.v 3)) (.con (.bl true)) (.blt .btuple (.cons c_law_3 .nil))))
def s_law_13 : S := (.asg 16 c_law_4)
def c_law_5 : E := (.frz (.comp [11] (.n 11) (.e (.v 5)) (.con (.bl true)) (.call "_law_dot" (.cons (.v 11) (.cons (.v 8) .nil)))))
def c_law_6 : E := (.frz (.comp [11] (.n 11) (.e (.v 16)) (.con (.bl true)) (.call "_law_dot" (.cons (.v 7) (.cons (.v 11) .nil)))))
def s_law_14 : S := (.asg 18 (.frz (.lst (.cons (.blt .btuple (.cons c_law_5 .nil)) (.cons (.blt .btuple (.cons c_law_6 .nil)) .nil)))))
def s_law_15 : S := (.asg 19 (.frz (.lst (.cons (.call "times_column" (.cons (.v 9) (.cons (.idx (.call "_law_loose_rows" (.cons (.v 1) (.cons (.tup (.cons (.v 8) .nil)) .nil))) (.con (.int 0))) .nil))) (.cons (.call "row_times" (.cons (.v 15) (.cons (.v 9) .nil))) .nil)))))
def s_law_17 : S := (.ret (.con (.bl false)))
def k_law_4 : Ss := (.cons s_law_17 .nil)
def s_law_16 : S := (.ife (.or (.cmp .NotEq (.v 19) (.v 18)) (.or (.not (.call "_law_is_told_row" (.cons (.idx (.v 19) (.con (.int 0))) (.cons (.v 2) .nil)))) (.not (.call "_law_is_told_row" (.cons (.idx (.v 19) (.con (.int 1))) (.cons (.v 3) .nil)))))) k_law_4 .nil)
def s_law_18 : S := (.asg 20 (.call "product" (.cons (.v 9) (.cons (.call "_law_loose_rows" (.cons (.v 1) (.cons (.v 6) .nil))) .nil))))
def s_law_20 : S := (.ret (.con (.bl false)))
def k_law_5 : Ss := (.cons s_law_20 .nil)
def s_law_19 : S := (.ife (.or (.cmp .NotEq (.v 20) (.call "_law_product" (.cons (.v 5) (.cons (.v 6) .nil)))) (.or (.not (.isin (.v 20) [.tuple])) (.cmp .NotEq (.v 9) (.v 10)))) k_law_5 .nil)
def c_law_7 : E := (.frz (.comp [11] (.n 11) (.e (.v 20)) (.con (.bl true)) (.call "_law_is_told_row" (.cons (.v 11) (.cons (.v 4) .nil)))))
def s_law_22 : S := (.ret (.con (.bl false)))
def k_law_6 : Ss := (.cons s_law_22 .nil)
def s_law_21 : S := (.ife (.not (.blt .ball (.cons c_law_7 .nil))) k_law_6 .nil)
def s_law_24 : S := (.ret (.con (.bl false)))
def k_law_7 : Ss := (.cons s_law_24 .nil)
def s_law_23 : S := (.ife (.or (.cmp .NotEq (.call "dot" (.cons (.v 7) (.cons (.frz (.blt .blist (.cons (.v 7) .nil))) .nil))) (.call "_law_dot" (.cons (.v 7) (.cons (.v 7) .nil)))) (.not (.call "_law_is_pair" (.cons (.call "dot" (.cons (.v 7) (.cons (.v 7) .nil))) .nil)))) k_law_7 .nil)
def s_law_25 : S := (.asgT [21, 22] (.tup (.cons (.call "_law_odd_row" (.cons (.v 1) (.cons (.v 7) .nil))) (.cons (.call "_law_odd_sheet" (.cons (.v 1) (.cons (.v 5) .nil))) .nil))))
def s_law_27 : S := (.ret (.con (.bl false)))
def k_law_8 : Ss := (.cons s_law_27 .nil)
def s_law_26 : S := (.forS 23 "_law_fault" (.cons (.call "greatest" (.cons (.v 21) .nil)) (.cons (.call "least" (.cons (.v 21) .nil)) (.cons (.call "dot" (.cons (.v 21) (.cons (.con .non) .nil))) (.cons (.call "dot" (.cons (.v 7) (.cons (.v 21) .nil))) (.cons (.call "times_column" (.cons (.v 5) (.cons (.v 21) .nil))) (.cons (.call "row_times" (.cons (.v 21) (.cons (.v 22) .nil))) .nil)))))) .NotEq (.call "_law_first" (.cons (.v 21) (.cons (.con (.str "row")) .nil))) k_law_8)
def s_law_29 : S := (.ret (.con (.bl false)))
def k_law_9 : Ss := (.cons s_law_29 .nil)
def s_law_28 : S := (.forS 23 "_law_fault" (.cons (.call "times_column" (.cons (.v 22) (.cons (.con .non) .nil))) (.cons (.call "row_times" (.cons (.v 7) (.cons (.v 22) .nil))) (.cons (.call "product" (.cons (.v 22) (.cons (.con .non) .nil))) (.cons (.call "product" (.cons (.v 5) (.cons (.v 22) .nil))) .nil)))) .NotEq (.call "_law_first" (.cons (.v 22) (.cons (.con (.str "sheet")) .nil))) k_law_9)
def s_law_31 : S := (.ret (.con (.bl false)))
def k_law_10 : Ss := (.cons s_law_31 .nil)
def s_law_30 : S := (.forS 23 "_law_fault" (.cons (.call "dot" (.cons (.v 7) (.cons (.bin .Add (.v 7) (.tup (.cons (.tup (.cons (.con (.int 1)) (.cons (.con (.int 1)) .nil))) .nil))) .nil))) (.cons (.call "times_column" (.cons (.v 5) (.cons (.bin .Add (.v 8) (.tup (.cons (.con (.int 5)) .nil))) .nil))) (.cons (.call "row_times" (.cons (.bin .Add (.v 7) (.tup (.cons (.con (.int 5)) .nil))) (.cons (.v 5) .nil))) (.cons (.call "product" (.cons (.v 5) (.cons (.bin .Add (.v 6) (.tup (.cons (.idx (.v 6) (.con (.int 0))) .nil))) .nil))) .nil)))) .NotEq (.tup (.cons (.con (.str "unlike")) (.cons (.con (.str "length")) .nil))) k_law_10)
def s_law_32 : S := (.ret (.con (.bl true)))
def k_law_1 : Ss := (.cons s_law_1 (.cons s_law_2 (.cons s_law_3 (.cons s_law_4 (.cons s_law_5 (.cons s_law_6 (.cons s_law_7 (.cons s_law_10 (.cons s_law_11 (.cons s_law_13 (.cons s_law_14 (.cons s_law_15 (.cons s_law_16 (.cons s_law_18 (.cons s_law_19 (.cons s_law_21 (.cons s_law_23 (.cons s_law_25 (.cons s_law_26 (.cons s_law_28 (.cons s_law_30 (.cons s_law_32 .nil))))))))))))))))))))))
def b_law : Ss := k_law_1
def f_law : Fn := ⟨1, 24, b_law, false⟩
class H_law (p : Str → Option Fn) : Prop where
  h : p "law" = some f_law
def s_radd_2 : S := (.ret (.tup (.cons (.bin .Add (.idx (.v 0) (.con (.int 0))) (.idx (.v 1) (.con (.int 0)))) (.cons (.con (.int 1)) .nil))))
def k_radd_2 : Ss := (.cons s_radd_2 .nil)
def s_radd_1 : S := (.ife (.and (.cmp .Eq (.idx (.v 0) (.con (.int 1))) (.con (.int 1))) (.cmp .Eq (.idx (.v 1) (.con (.int 1))) (.con (.int 1)))) k_radd_2 .nil)
def s_radd_3 : S := (.ret (.call "lowest" (.cons (.bin .Add (.bin .Mult (.idx (.v 0) (.con (.int 0))) (.idx (.v 1) (.con (.int 1)))) (.bin .Mult (.idx (.v 1) (.con (.int 0))) (.idx (.v 0) (.con (.int 1))))) (.cons (.bin .Mult (.idx (.v 0) (.con (.int 1))) (.idx (.v 1) (.con (.int 1)))) .nil))))
def k_radd_1 : Ss := (.cons s_radd_1 (.cons s_radd_3 .nil))
def b_radd : Ss := k_radd_1
def f_radd : Fn := ⟨2, 2, b_radd, false⟩
class H_radd (p : Str → Option Fn) : Prop where
  h : p "radd" = some f_radd
def s_rsub_1 : S := (.ret (.call "lowest" (.cons (.bin .Sub (.bin .Mult (.idx (.v 0) (.con (.int 0))) (.idx (.v 1) (.con (.int 1)))) (.bin .Mult (.idx (.v 1) (.con (.int 0))) (.idx (.v 0) (.con (.int 1))))) (.cons (.bin .Mult (.idx (.v 0) (.con (.int 1))) (.idx (.v 1) (.con (.int 1)))) .nil))))
def k_rsub_1 : Ss := (.cons s_rsub_1 .nil)
def b_rsub : Ss := k_rsub_1
def f_rsub : Fn := ⟨2, 2, b_rsub, false⟩
class H_rsub (p : Str → Option Fn) : Prop where
  h : p "rsub" = some f_rsub
def s_rmul_2 : S := (.ret (.tup (.cons (.con (.int 0)) (.cons (.con (.int 1)) .nil))))
def k_rmul_2 : Ss := (.cons s_rmul_2 .nil)
def s_rmul_1 : S := (.ife (.or (.cmp .Eq (.idx (.v 0) (.con (.int 0))) (.con (.int 0))) (.cmp .Eq (.idx (.v 1) (.con (.int 0))) (.con (.int 0)))) k_rmul_2 .nil)
def s_rmul_3 : S := (.ret (.call "lowest" (.cons (.bin .Mult (.idx (.v 0) (.con (.int 0))) (.idx (.v 1) (.con (.int 0)))) (.cons (.bin .Mult (.idx (.v 0) (.con (.int 1))) (.idx (.v 1) (.con (.int 1)))) .nil))))
def k_rmul_1 : Ss := (.cons s_rmul_1 (.cons s_rmul_3 .nil))
def b_rmul : Ss := k_rmul_1
def f_rmul : Fn := ⟨2, 2, b_rmul, false⟩
class H_rmul (p : Str → Option Fn) : Prop where
  h : p "rmul" = some f_rmul
def s_rdiv_1 : S := (.asg 2 (.bin .Mult (.idx (.v 0) (.con (.int 0))) (.idx (.v 1) (.con (.int 1)))))
def s_rdiv_2 : S := (.asg 3 (.bin .Mult (.idx (.v 0) (.con (.int 1))) (.idx (.v 1) (.con (.int 0)))))
def s_rdiv_4 : S := (.ret (.call "lowest" (.cons (.neg (.v 2)) (.cons (.neg (.v 3)) .nil))))
def k_rdiv_2 : Ss := (.cons s_rdiv_4 .nil)
def s_rdiv_3 : S := (.ife (.cmp .Lt (.v 3) (.con (.int 0))) k_rdiv_2 .nil)
def s_rdiv_5 : S := (.ret (.call "lowest" (.cons (.v 2) (.cons (.v 3) .nil))))
def k_rdiv_1 : Ss := (.cons s_rdiv_1 (.cons s_rdiv_2 (.cons s_rdiv_3 (.cons s_rdiv_5 .nil))))
def b_rdiv : Ss := k_rdiv_1
def f_rdiv : Fn := ⟨2, 4, b_rdiv, false⟩
class H_rdiv (p : Str → Option Fn) : Prop where
  h : p "rdiv" = some f_rdiv
def s_plus_1 : S := (.asg 2 (.call "told" (.cons (.v 0) .nil)))
def s_plus_2 : S := (.ret (.call "radd" (.cons (.v 2) (.cons (.call "told" (.cons (.v 1) .nil)) .nil))))
def k_plus_1 : Ss := (.cons s_plus_1 (.cons s_plus_2 .nil))
def b_plus : Ss := k_plus_1
def f_plus : Fn := ⟨2, 3, b_plus, false⟩
class H_plus (p : Str → Option Fn) : Prop where
  h : p "plus" = some f_plus
def s_minus_1 : S := (.asg 2 (.call "told" (.cons (.v 0) .nil)))
def s_minus_2 : S := (.ret (.call "rsub" (.cons (.v 2) (.cons (.call "told" (.cons (.v 1) .nil)) .nil))))
def k_minus_1 : Ss := (.cons s_minus_1 (.cons s_minus_2 .nil))
def b_minus : Ss := k_minus_1
def f_minus : Fn := ⟨2, 3, b_minus, false⟩
class H_minus (p : Str → Option Fn) : Prop where
  h : p "minus" = some f_minus
def s_times_1 : S := (.asg 2 (.call "told" (.cons (.v 0) .nil)))
def s_times_2 : S := (.ret (.call "rmul" (.cons (.v 2) (.cons (.call "told" (.cons (.v 1) .nil)) .nil))))
def k_times_1 : Ss := (.cons s_times_1 (.cons s_times_2 .nil))
def b_times : Ss := k_times_1
def f_times : Fn := ⟨2, 3, b_times, false⟩
class H_times (p : Str → Option Fn) : Prop where
  h : p "times" = some f_times
def s_share_of_1 : S := (.asg 2 (.call "told" (.cons (.v 0) .nil)))
def s_share_of_2 : S := (.asg 3 (.call "told" (.cons (.v 1) .nil)))
def s_share_of_4 : S := (.raise "BadNumber" ["what", "number"] (.cons (.con (.str "quotient")) (.cons (.con (.int 0)) .nil)))
def k_share_of_2 : Ss := (.cons s_share_of_4 .nil)
def s_share_of_3 : S := (.ife (.cmp .Eq (.idx (.v 3) (.con (.int 0))) (.con (.int 0))) k_share_of_2 .nil)
def s_share_of_5 : S := (.ret (.call "rdiv" (.cons (.v 2) (.cons (.v 3) .nil))))
def k_share_of_1 : Ss := (.cons s_share_of_1 (.cons s_share_of_2 (.cons s_share_of_3 (.cons s_share_of_5 .nil))))
def b_share_of : Ss := k_share_of_1
def f_share_of : Fn := ⟨2, 4, b_share_of, false⟩
class H_share_of (p : Str → Option Fn) : Prop where
  h : p "share_of" = some f_share_of
def s_less_1 : S := (.asg 2 (.call "told" (.cons (.v 0) .nil)))
def s_less_2 : S := (.ret (.call "rless" (.cons (.v 2) (.cons (.call "told" (.cons (.v 1) .nil)) .nil))))
def k_less_1 : Ss := (.cons s_less_1 (.cons s_less_2 .nil))
def b_less : Ss := k_less_1
def f_less : Fn := ⟨2, 3, b_less, false⟩
class H_less (p : Str → Option Fn) : Prop where
  h : p "less" = some f_less
def s_same_1 : S := (.asg 2 (.call "told" (.cons (.v 0) .nil)))
def s_same_2 : S := (.ret (.cmp .Eq (.v 2) (.call "told" (.cons (.v 1) .nil))))
def k_same_1 : Ss := (.cons s_same_1 (.cons s_same_2 .nil))
def b_same : Ss := k_same_1
def f_same : Fn := ⟨2, 3, b_same, false⟩
class H_same (p : Str → Option Fn) : Prop where
  h : p "same" = some f_same
def s__law_sub_1 : S := (.ret (.call "_law_low" (.cons (.bin .Sub (.bin .Mult (.idx (.v 0) (.con (.int 0))) (.idx (.v 1) (.con (.int 1)))) (.bin .Mult (.idx (.v 1) (.con (.int 0))) (.idx (.v 0) (.con (.int 1))))) (.cons (.bin .Mult (.idx (.v 0) (.con (.int 1))) (.idx (.v 1) (.con (.int 1)))) .nil))))
def k__law_sub_1 : Ss := (.cons s__law_sub_1 .nil)
def b__law_sub : Ss := k__law_sub_1
def f__law_sub : Fn := ⟨2, 2, b__law_sub, false⟩
class H__law_sub (p : Str → Option Fn) : Prop where
  h : p "_law_sub" = some f__law_sub
def s__law_div_1 : S := (.asg 2 (.ite (.cmp .Gt (.idx (.v 1) (.con (.int 0))) (.con (.int 0))) (.con (.int 1)) (.neg (.con (.int 1)))))
def s__law_div_2 : S := (.ret (.call "_law_low" (.cons (.bin .Mult (.bin .Mult (.v 2) (.idx (.v 0) (.con (.int 0)))) (.idx (.v 1) (.con (.int 1)))) (.cons (.bin .Mult (.bin .Mult (.v 2) (.idx (.v 0) (.con (.int 1)))) (.idx (.v 1) (.con (.int 0)))) .nil))))
def k__law_div_1 : Ss := (.cons s__law_div_1 (.cons s__law_div_2 .nil))
def b__law_div : Ss := k__law_div_1
def f__law_div : Fn := ⟨2, 3, b__law_div, false⟩
class H__law_div (p : Str → Option Fn) : Prop where
  h : p "_law_div" = some f__law_div
def s__law_fault_v2_2 : S := (.expr .callv)
def k__law_fault_v2_2 : Ss := (.cons s__law_fault_v2_2 .nil)
def s__law_fault_v2_3 : S := (.ret (.tup (.cons (.con (.str "number")) (.cons (.exF "what") (.cons (.blt .brepr (.cons (.exF "number") .nil)) .nil)))))
def k__law_fault_v2_3 : Ss := (.cons s__law_fault_v2_3 .nil)
def s__law_fault_v2_4 : S := (.ret (.tup (.cons (.con (.str "ratio")) (.cons (.blt .brepr (.cons (.exF "value") .nil)) (.cons (.exIs ["BadNumber"]) .nil)))))
def k__law_fault_v2_4 : Ss := (.cons s__law_fault_v2_4 .nil)
def s__law_fault_v2_1 : S := (.try k__law_fault_v2_2 (.cons ["BadRatio"] (some 1) k__law_fault_v2_4 (.cons ["BadNumber"] (some 1) k__law_fault_v2_3 .nil)))
def s__law_fault_v2_5 : S := (.ret (.con .non))
def k__law_fault_v2_1 : Ss := (.cons s__law_fault_v2_1 (.cons s__law_fault_v2_5 .nil))
def b__law_fault_v2 : Ss := k__law_fault_v2_1
def f__law_fault_v2 : Fn := ⟨1, 2, b__law_fault_v2, true⟩
class H__law_fault_v2 (p : Str → Option Fn) : Prop where
  h : p "_law_fault" = some f__law_fault_v2
def s__law_is_ratio_3 : S := (.ret (.con (.bl false)))
def k__law_is_ratio_3 : Ss := (.cons s__law_is_ratio_3 .nil)
def s__law_is_ratio_2 : S := (.ife (.or (.cmp .NotEq (.blt .blen (.cons (.v 0) .nil)) (.con (.int 2))) (.or (.not (.call "_law_is_int" (.cons (.idx (.v 0) (.con (.int 0))) .nil))) (.not (.call "_law_is_int" (.cons (.idx (.v 0) (.con (.int 1))) .nil))))) k__law_is_ratio_3 .nil)
def s__law_is_ratio_4 : S := (.ret (.cmp .GtE (.idx (.v 0) (.con (.int 1))) (.con (.int 1))))
def k__law_is_ratio_2 : Ss := (.cons s__law_is_ratio_2 (.cons s__law_is_ratio_4 .nil))
def s__law_is_ratio_1 : S := (.ife (.isin (.v 0) [.tuple, .list]) k__law_is_ratio_2 .nil)
def s__law_is_ratio_5 : S := (.ret (.call "_law_is_int" (.cons (.v 0) .nil)))
def k__law_is_ratio_1 : Ss := (.cons s__law_is_ratio_1 (.cons s__law_is_ratio_5 .nil))
def b__law_is_ratio : Ss := k__law_is_ratio_1
def f__law_is_ratio : Fn := ⟨1, 1, b__law_is_ratio, false⟩
class H__law_is_ratio (p : Str → Option Fn) : Prop where
  h : p "_law_is_ratio" = some f__law_is_ratio
def s__law_odd_1 : S := (.par [1, 2] (.cons (.bin .Sub (.call "_law_draw" (.cons (.v 0) (.cons (.con (.int 2000)) .nil))) (.con (.int 1000))) (.cons (.call "_law_draw" (.cons (.v 0) (.cons (.bin .Pow (.con (.int 10)) (.con (.int 12))) .nil))) .nil)))
def s__law_odd_2 : S := (.asg 3 (.call "_law_draw" (.cons (.v 0) (.cons (.con (.int 9)) .nil))))
def s__law_odd_4 : S := (.ret (.tup (.cons (.v 1) (.cons (.neg (.v 2)) .nil))))
def k__law_odd_2 : Ss := (.cons s__law_odd_4 .nil)
def s__law_odd_3 : S := (.ife (.cmp .Eq (.v 3) (.con (.int 0))) k__law_odd_2 .nil)
def s__law_odd_6 : S := (.ret (.frz (.lst (.cons (.v 1) (.cons (.con (.int 0)) .nil)))))
def k__law_odd_3 : Ss := (.cons s__law_odd_6 .nil)
def s__law_odd_5 : S := (.ife (.cmp .Eq (.v 3) (.con (.int 1))) k__law_odd_3 .nil)
def s__law_odd_8 : S := (.ret (.tup (.cons (.v 1) (.cons (.bin .Add (.v 2) (.con (.int 1))) (.cons (.con (.int 1)) .nil)))))
def k__law_odd_4 : Ss := (.cons s__law_odd_8 .nil)
def s__law_odd_7 : S := (.ife (.cmp .Eq (.v 3) (.con (.int 2))) k__law_odd_4 .nil)
def s__law_odd_10 : S := (.ret (.call "_law_pick" (.cons (.v 0) (.cons (.frz (.lst (.cons (.tup (.cons (.v 1) (.cons (.con (.bl true)) .nil))) (.cons (.tup (.cons (.con (.bl true)) (.cons (.bin .Add (.v 2) (.con (.int 1))) .nil))) (.cons (.frz (.lst (.cons (.con (.bl false)) (.cons (.con (.int 1)) .nil)))) (.cons (.tup (.cons (.v 1) (.cons (.con .non) .nil))) .nil)))))) .nil))))
def k__law_odd_5 : Ss := (.cons s__law_odd_10 .nil)
def s__law_odd_9 : S := (.ife (.cmp .Eq (.v 3) (.con (.int 3))) k__law_odd_5 .nil)
def s__law_odd_12 : S := (.ret (.call "_law_pick" (.cons (.v 0) (.cons (.frz (.lst (.cons (.tup (.cons (.v 1) .nil)) (.cons (.frz (.lst .nil)) (.cons (.tup .nil) (.cons (.tup (.cons (.tup (.cons (.v 1) (.cons (.con (.int 1)) .nil))) (.cons (.con (.int 1)) .nil))) .nil)))))) .nil))))
def k__law_odd_6 : Ss := (.cons s__law_odd_12 .nil)
def s__law_odd_11 : S := (.ife (.cmp .Eq (.v 3) (.con (.int 4))) k__law_odd_6 .nil)
def s__law_odd_14 : S := (.ret (.call "_law_pick" (.cons (.v 0) (.cons (.frz (.lst (.cons (.con (.bl true)) (.cons (.con (.bl false)) (.cons (.con .non) .nil))))) .nil))))
def k__law_odd_7 : Ss := (.cons s__law_odd_14 .nil)
def s__law_odd_13 : S := (.ife (.cmp .Eq (.v 3) (.con (.int 5))) k__law_odd_7 .nil)
def s__law_odd_16 : S := (.ret (.call "_law_pick" (.cons (.v 0) (.cons (.frz (.lst (.cons (.blt .bstr (.cons (.v 1) .nil)) (.cons (.con (.str "1/2")) (.cons (.con (.str "")) (.cons (.tup (.cons (.blt .bstr (.cons (.v 1) .nil)) (.cons (.con (.int 2)) .nil))) .nil)))))) .nil))))
def k__law_odd_8 : Ss := (.cons s__law_odd_16 .nil)
def s__law_odd_15 : S := (.ife (.cmp .Eq (.v 3) (.con (.int 6))) k__law_odd_8 .nil)
def s__law_odd_17 : S := (.ret (.ite (.cmp .Eq (.v 3) (.con (.int 7))) (.dic (.consE (.v 1) (.v 2) .nil)) (.tup (.cons (.v 1) (.cons (.v 2) .nil)))))
def k__law_odd_1 : Ss := (.cons s__law_odd_1 (.cons s__law_odd_2 (.cons s__law_odd_3 (.cons s__law_odd_5 (.cons s__law_odd_7 (.cons s__law_odd_9 (.cons s__law_odd_11 (.cons s__law_odd_13 (.cons s__law_odd_15 (.cons s__law_odd_17 .nil))))))))))
def b__law_odd : Ss := k__law_odd_1
def f__law_odd : Fn := ⟨1, 4, b__law_odd, false⟩
class H__law_odd (p : Str → Option Fn) : Prop where
  h : p "_law_odd" = some f__law_odd
def s_law_v2_1 : S := (.asg 1 (.call "_law_pen" (.cons (.v 0) .nil)))
def s_law_v2_3 : S := (.asg 3 (.call "_law_odd" (.cons (.v 1) .nil)))
def s_law_v2_4 : S := (.par [4, 5] (.cons (.call "_law_ratio" (.cons (.v 1) .nil)) (.cons (.call "_law_ratio" (.cons (.v 1) .nil)) .nil)))
def s_law_v2_6 : S := (.asg 5 (.v 4))
def k_law_v2_3 : Ss := (.cons s_law_v2_6 .nil)
def s_law_v2_5 : S := (.ife (.cmp .Eq (.call "_law_draw" (.cons (.v 1) (.cons (.con (.int 4)) .nil))) (.con (.int 0))) k_law_v2_3 .nil)
def s_law_v2_7 : S := (.asgT [6, 7] (.tup (.cons (.call "_law_loose" (.cons (.v 1) (.cons (.v 4) .nil))) (.cons (.call "_law_loose" (.cons (.v 1) (.cons (.v 5) .nil))) .nil))))
def s_law_v2_10 : S := (.ret (.con (.bl false)))
def k_law_v2_5 : Ss := (.cons s_law_v2_10 .nil)
def s_law_v2_9 : S := (.ife (.or (.cmp .NotEq (.call "is_ratio" (.cons (.v 8) .nil)) (.call "_law_is_ratio" (.cons (.v 8) .nil))) (.not (.isin (.call "is_ratio" (.cons (.v 8) .nil)) [.bool]))) k_law_v2_5 .nil)
def k_law_v2_4 : Ss := (.cons s_law_v2_9 .nil)
def s_law_v2_8 : S := (.for (.n 8) (.e (.tup (.cons (.v 3) (.cons (.v 6) (.cons (.v 7) .nil))))) k_law_v2_4)
def s_law_v2_12 : S := (.ret (.con (.bl false)))
def k_law_v2_6 : Ss := (.cons s_law_v2_12 .nil)
def s_law_v2_11 : S := (.ife (.or (.cmp .NotEq (.call "told" (.cons (.v 6) .nil)) (.v 4)) (.not (.call "_law_is_pair" (.cons (.call "told" (.cons (.v 6) .nil)) .nil)))) k_law_v2_6 .nil)
def s_law_v2_15 : S := (.ret (.con (.bl false)))
def k_law_v2_8 : Ss := (.cons s_law_v2_15 .nil)
def s_law_v2_14 : S := (.ife (.or (.not (.call "_law_is_pair" (.cons (.v 9) .nil))) (.cmp .NotEq (.v 9) (.v 10))) k_law_v2_8 .nil)
def k_law_v2_7 : Ss := (.cons s_law_v2_14 .nil)
def s_law_v2_13 : S := (.for (.t [9, 10]) (.e (.frz (.lst (.cons (.tup (.cons (.call "plus" (.cons (.v 6) (.cons (.v 7) .nil))) (.cons (.call "_law_add" (.cons (.v 4) (.cons (.v 5) .nil))) .nil))) (.cons (.tup (.cons (.call "minus" (.cons (.v 6) (.cons (.v 7) .nil))) (.cons (.call "_law_sub" (.cons (.v 4) (.cons (.v 5) .nil))) .nil))) (.cons (.tup (.cons (.call "times" (.cons (.v 6) (.cons (.v 7) .nil))) (.cons (.call "_law_mul" (.cons (.v 4) (.cons (.v 5) .nil))) .nil))) .nil)))))) k_law_v2_7)
def s_law_v2_18 : S := (.ret (.con (.bl false)))
def k_law_v2_10 : Ss := (.cons s_law_v2_18 .nil)
def s_law_v2_17 : S := (.ife (.cmp .NotEq (.callH "_law_fault" (.call "share_of" (.cons (.v 6) (.cons (.v 7) .nil))) .nil) (.tup (.cons (.con (.str "number")) (.cons (.con (.str "quotient")) (.cons (.con (.str "0")) .nil))))) k_law_v2_10 .nil)
def k_law_v2_9 : Ss := (.cons s_law_v2_17 .nil)
def s_law_v2_20 : S := (.ret (.con (.bl false)))
def k_law_v2_12 : Ss := (.cons s_law_v2_20 .nil)
def s_law_v2_19 : S := (.ife (.or (.cmp .NotEq (.call "share_of" (.cons (.v 6) (.cons (.v 7) .nil))) (.call "_law_div" (.cons (.v 4) (.cons (.v 5) .nil)))) (.not (.call "_law_is_pair" (.cons (.call "share_of" (.cons (.v 6) (.cons (.v 7) .nil))) .nil)))) k_law_v2_12 .nil)
def k_law_v2_11 : Ss := (.cons s_law_v2_19 .nil)
def s_law_v2_16 : S := (.ife (.cmp .Eq (.idx (.v 5) (.con (.int 0))) (.con (.int 0))) k_law_v2_9 k_law_v2_11)
def s_law_v2_23 : S := (.ret (.con (.bl false)))
def k_law_v2_14 : Ss := (.cons s_law_v2_23 .nil)
def s_law_v2_22 : S := (.ife (.or (.not (.isin (.v 9) [.bool])) (.cmp .NotEq (.v 9) (.v 10))) k_law_v2_14 .nil)
def k_law_v2_13 : Ss := (.cons s_law_v2_22 .nil)
def s_law_v2_21 : S := (.for (.t [9, 10]) (.e (.frz (.lst (.cons (.tup (.cons (.call "less" (.cons (.v 6) (.cons (.v 7) .nil))) (.cons (.call "_law_less" (.cons (.v 4) (.cons (.v 5) .nil))) .nil))) (.cons (.tup (.cons (.call "same" (.cons (.v 6) (.cons (.v 7) .nil))) (.cons (.cmp .Eq (.v 4) (.v 5)) .nil))) .nil))))) k_law_v2_13)
def s_law_v2_25 : S := .cnt
def k_law_v2_15 : Ss := (.cons s_law_v2_25 .nil)
def s_law_v2_24 : S := (.ife (.call "_law_is_ratio" (.cons (.v 3) .nil)) k_law_v2_15 .nil)
def s_law_v2_26 : S := (.asgT [11, 12] (.tup (.cons (.call "_law_odd" (.cons (.v 1) .nil)) (.cons (.tup (.cons (.con (.str "ratio")) (.cons (.blt .brepr (.cons (.v 3) .nil)) (.cons (.con (.bl false)) .nil)))) .nil))))
def s_law_v2_28 : S := (.ret (.con (.bl false)))
def k_law_v2_16 : Ss := (.cons s_law_v2_28 .nil)
def s_law_v2_27 : S := (.forS 13 "_law_fault" (.cons (.call "told" (.cons (.v 3) .nil)) (.cons (.call "plus" (.cons (.v 3) (.cons (.v 11) .nil))) (.cons (.call "minus" (.cons (.v 3) (.cons (.v 7) .nil))) (.cons (.call "times" (.cons (.v 6) (.cons (.v 3) .nil))) (.cons (.call "share_of" (.cons (.v 3) (.cons (.con (.int 0)) .nil))) (.cons (.call "share_of" (.cons (.v 6) (.cons (.v 3) .nil))) (.cons (.call "less" (.cons (.v 3) (.cons (.v 11) .nil))) (.cons (.call "less" (.cons (.v 6) (.cons (.v 3) .nil))) (.cons (.call "same" (.cons (.v 3) (.cons (.v 11) .nil))) (.cons (.call "same" (.cons (.v 6) (.cons (.v 3) .nil))) .nil)))))))))) .NotEq (.v 12) k_law_v2_16)
def k_law_v2_2 : Ss := (.cons s_law_v2_3 (.cons s_law_v2_4 (.cons s_law_v2_5 (.cons s_law_v2_7 (.cons s_law_v2_8 (.cons s_law_v2_11 (.cons s_law_v2_13 (.cons s_law_v2_16 (.cons s_law_v2_21 (.cons s_law_v2_24 (.cons s_law_v2_26 (.cons s_law_v2_27 .nil))))))))))))
def s_law_v2_2 : S := (.for (.n 2) (.rng1 (.con (.int 5))) k_law_v2_2)
def s_law_v2_29 : S := (.ret (.con (.bl true)))
def k_law_v2_1 : Ss := (.cons s_law_v2_1 (.cons s_law_v2_2 (.cons s_law_v2_29 .nil)))
def b_law_v2 : Ss := k_law_v2_1
def f_law_v2 : Fn := ⟨1, 14, b_law_v2, false⟩
class H_law_v2 (p : Str → Option Fn) : Prop where
  h : p "law" = some f_law_v2
end MM.F
end

section
set_option Elab.async false
set_option linter.all false
set_option maxRecDepth 100000
/-! MMPl: plain lemmas of the evaluator: what nothing changes, comprehensions, loops, zip, answers. -/
namespace MM
open PySem
/-! ### no places -/
theorem lims_le {n : Nat} : ∀ {xs : List D}, (∀ d ∈ xs, d.lim ≤ n) → D.lims xs ≤ n
  | [], _ => by simp [D.lims]
  | x :: r, h => by
    simp only [D.lims]
    exact Nat.max_le.mpr ⟨h x List.mem_cons_self, lims_le fun d hd => h d (List.mem_cons_of_mem _ hd)⟩
theorem mem_lims {n : Nat} : ∀ {xs : List D}, D.lims xs ≤ n → ∀ d ∈ xs, d.lim ≤ n
  | x :: r, h, d, hd => by
    simp only [D.lims] at h
    rcases List.mem_cons.mp hd with z | z
    · subst z; exact Nat.le_trans (Nat.le_max_left _ _) h
    · exact mem_lims (Nat.le_trans (Nat.le_max_right _ _) h) d z
theorem lims_map {α : Type} {n : Nat} {xs : List α} {f : α → D} (h : ∀ x ∈ xs, (f x).lim ≤ n) : D.lims (xs.map f) ≤ n := lims_le fun d hd => by
  obtain ⟨x, hx, rfl⟩ := List.mem_map.mp hd
  exact h x hx
theorem lims0 {xs : List D} (h : ∀ d ∈ xs, d.lim = 0) : D.lims xs = 0 := Nat.le_zero.mp (lims_le fun d hd => Nat.le_of_eq (h d hd))
theorem lims_map0 {α : Type} {xs : List α} {f : α → D} (h : ∀ x ∈ xs, (f x).lim = 0) : D.lims (xs.map f) = 0 := Nat.le_zero.mp (lims_map fun x hx => Nat.le_of_eq (h x hx))
theorem lims_mem0 {xs : List D} (h : D.lims xs = 0) : ∀ d ∈ xs, d.lim = 0 := fun d hd => Nat.le_zero.mp (mem_lims (Nat.le_of_eq h) d hd)
@[simp] theorem lim_fl (xs : List D) : D.lim (.fl xs) = D.lims xs := by simp [D.lim]
@[simp] theorem lim_obj (c : Str) (ns : List Str) (xs : List D) : D.lim (.obj c ns xs) = D.lims xs := by simp [D.lim]
@[simp] theorem lims_int (ns : List Int) : D.lims (ns.map D.int) = 0 := lims_map0 fun _ _ => by simp
@[simp] theorem lims_bl (ns : List Bool) : D.lims (ns.map D.bl) = 0 := lims_map0 fun _ _ => by simp
theorem lims_append (xs ys : List D) : D.lims (xs ++ ys) = max (D.lims xs) (D.lims ys) := by
  induction xs with
  | nil => simp [D.lims]
  | cons x r ih => simp only [List.cons_append, lims_cons, ih]; omega
/-! ### answers -/
theorem frzD_id {b : Nat} {st : Store} : ∀ (k : Nat) (d : D), d.lim ≤ b → frzD b st k d = d
  | 0, _, _ => rfl
  | k + 1, .loc n, h => by
    simp only [lim_loc] at h
    simp only [frzD]
    rw [if_neg (by omega)]
  | k + 1, .tup xs, h => by
    simp only [lim_tup] at h
    simp only [frzD]
    congr 1
    exact (List.map_congr_left fun d hd => frzD_id k d (mem_lims h d hd)).trans (List.map_id _)
  | k + 1, .fl xs, h => by
    simp only [lim_fl] at h
    simp only [frzD]
    congr 1
    exact (List.map_congr_left fun d hd => frzD_id k d (mem_lims h d hd)).trans (List.map_id _)
  | k + 1, .obj c ns xs, h => by
    simp only [lim_obj] at h
    simp only [frzD]
    congr 1
    exact (List.map_congr_left fun d hd => frzD_id k d (mem_lims h d hd)).trans (List.map_id _)
  | _ + 1, .non, _ => rfl
  | _ + 1, .bl _, _ => rfl
  | _ + 1, .int _, _ => rfl
  | _ + 1, .str _, _ => rfl
/-- nothing laid is left, what is answered names nothing new -/
theorem retF_mod {st st1 g : Store} {d : D} (h : Mod st st1) (hd : d.lim ≤ st.length) : retF st (st1 ++ g) d = .ok d st1 := by
  have e : (st1 ++ g).take st.length = st1 := by rw [← h.1]; exact List.take_left
  unfold retF
  rw [frzD_id _ _ hd, e, if_pos ⟨hd, by rw [List.length_append, ← h.1]; omega, h⟩]
theorem retF_same {st : Store} {d : D} (hd : d.lim ≤ st.length) : retF st st d = .ok d st := by
  have := retF_mod (g := []) (Mod.refl st) hd
  rwa [List.append_nil] at this
@[simp] theorem retF_pure {st : Store} {d : D} (hd : d.lim = 0) : retF st st d = .ok d st := retF_same (by omega)
/-- a new list answered -/
theorem retF_new {st st1 : Store} {xs : List D} (h : Mod st st1) (hx : D.lims xs ≤ st.length) : retF st (st1 ++ [.lst xs]) (.loc st.length) = .ok (.fl xs) st1 := by
  have e : (st1 ++ [Cell.lst xs]).take st.length = st1 := by rw [← h.1]; exact List.take_left
  have ei : (st1 ++ [Cell.lst xs])[st.length]? = some (.lst xs) := by rw [← h.1]; simp
  have ef : frzD st.length (st1 ++ [Cell.lst xs]) 9 (.loc st.length) = .fl xs := by
    simp only [frzD, Nat.le_refl, if_true, ei]
    congr 1
    exact (List.map_congr_left fun d hd => frzD_id 8 d (mem_lims hx d hd)).trans (List.map_id _)
  unfold retF
  rw [ef, e, if_pos ⟨by simpa using hx, by rw [List.length_append, ← h.1]; omega, h⟩]
/-! ### lists that nobody changes -/
@[simp] theorem frz_int (st st1 : Store) (i : Int) : frzE st (.int i) st1 = .ok (.int i) st1 := rfl
@[simp] theorem frz_str (st st1 : Store) (i : Str) : frzE st (.str i) st1 = .ok (.str i) st1 := rfl
@[simp] theorem frz_tup (st st1 : Store) (i : List D) : frzE st (.tup i) st1 = .ok (.tup i) st1 := rfl
@[simp] theorem frz_fl (st st1 : Store) (i : List D) : frzE st (.fl i) st1 = .ok (.fl i) st1 := rfl
theorem frz_mod {st st1 : Store} {xs : List D} (h : Mod st st1) (hx : D.lims xs ≤ st.length) : frzE st (.loc st1.length) (st1 ++ [.lst xs]) = .ok (.fl xs) st1 := by
  have e : (st1 ++ [Cell.lst xs]).take st.length = st1 := by rw [← h.1]; exact List.take_left
  have ei : (st1 ++ [Cell.lst xs])[st1.length]? = some (.lst xs) := by simp
  simp only [frzE, ei]
  rw [if_pos (by rw [h.1]; exact Nat.le_refl _), if_pos ⟨hx, by rw [List.length_append, ← h.1]; omega, by rw [e]; exact h⟩, e]
theorem frz_new {st : Store} {xs : List D} (hx : D.lims xs ≤ st.length) : frzE st (.loc st.length) (st ++ [.lst xs]) = .ok (.fl xs) st := frz_mod (Mod.refl st) hx
@[simp] theorem frz_new0 {st : Store} {xs : List D} (hx : D.lims xs = 0) : frzE st (.loc st.length) (st ++ [.lst xs]) = .ok (.fl xs) st := frz_new (by omega)
@[simp] theorem len_fl {st : Store} {xs : List D} : bltD .blen [.fl xs] st = .ok (.int xs.length) st := rfl
@[simp] theorem lst_fl {st : Store} {xs : List D} : lstOf st (.fl xs) = some xs := rfl
@[simp] theorem items_fl {st : Store} {xs : List D} : itemsOf st (.fl xs) = some xs := rfl
@[simp] theorem items_tup {st : Store} {xs : List D} : itemsOf st (.tup xs) = some xs := rfl
@[simp] theorem tuple_fl {st : Store} {xs : List D} : bltD .btuple [.fl xs] st = .ok (.tup xs) st := rfl
@[simp] theorem tuple_tup {st : Store} {xs : List D} : bltD .btuple [.tup xs] st = .ok (.tup xs) st := rfl
@[simp] theorem list_fl {st : Store} {xs : List D} : bltD .blist [.fl xs] st = .ok (.loc st.length) (st ++ [.lst xs]) := rfl
@[simp] theorem list_tup {st : Store} {xs : List D} : bltD .blist [.tup xs] st = .ok (.loc st.length) (st ++ [.lst xs]) := rfl
theorem bools_bl : ∀ xs : List Bool, boolsOf (xs.map D.bl) = some xs
  | [] => rfl
  | x :: r => by simp only [List.map_cons, boolsOf, bools_bl r]; rfl
@[simp] theorem all_fl {st : Store} {xs : List Bool} : bltD .ball [.fl (xs.map D.bl)] st = .ok (.bl (xs.all id)) st := by simp only [bltD, lst_fl, bools_bl]
@[simp] theorem any_fl {st : Store} {xs : List Bool} : bltD .bany [.fl (xs.map D.bl)] st = .ok (.bl (xs.any id)) st := by simp only [bltD, lst_fl, bools_bl]
theorem src_fl (st : Store) (xs : List D) : srcOf st (.fl xs) st = .ok (xs, []) st := by simp only [srcOf, gc_same]
theorem src_tup (st : Store) (xs : List D) : srcOf st (.tup xs) st = .ok (xs, []) st := by simp only [srcOf, gc_same]
theorem rng1_ok {st : Store} {n : Int} (h : small62 n) : rng1D (.int n) st = .ok (range0 0 n.toNat, []) st := by simp only [rng1D, if_pos h]
@[simp] theorem wok_nil (st : Store) : wOk [] st := fun _ h => nomatch h
/-! ### comprehensions -/
section
variable {C : Orc} {fs : List Fr} {cu : Option Ex} {ρ : Env} {st st1 : Store} {own : List Nat} {t : Tg} {it : It} {cond elt : E} {xs : List D}
/-- a list computed item by item, nothing laid -/
theorem ev_fcomp (g : D → D) (hi : evIt C fs cu it ρ st = .ok (xs, []) st) (hz : xs.length ≤ big) (hl : D.lims (xs.map g) ≤ st.length)
    (h : ∀ x ∈ xs, ∃ ρ1, asgTg t x (wipeE ρ own) = some ρ1 ∧ evE C fs cu elt ρ1 st = .ok (g x) st) : evE C fs cu (.frz (.comp own t it (.con (.bl true)) elt)) ρ st = .ok (.fl (xs.map g)) st := by
  rw [ev_frz, ev_comp_pure g hi hz (wok_nil st) h, Res.bind_ok, frz_new hl]
/-- .. of typed items -/
theorem ev_fcompT {α : Type} {ys : List α} {enc : α → D} (g : α → D) (hi : evIt C fs cu it ρ st = .ok (ys.map enc, []) st) (hz : ys.length ≤ big) (hl : ∀ y ∈ ys, (g y).lim ≤ st.length)
    (h : ∀ y ∈ ys, ∃ ρ1, asgTg t (enc y) (wipeE ρ own) = some ρ1 ∧ evE C fs cu elt ρ1 st = .ok (g y) st) : evE C fs cu (.frz (.comp own t it (.con (.bl true)) elt)) ρ st = .ok (.fl (ys.map g)) st := by
  have key : ∀ (zs : List α), (∀ y ∈ zs, ∃ ρ1, asgTg t (enc y) (wipeE ρ own) = some ρ1 ∧ evE C fs cu elt ρ1 st = .ok (g y) st) → compL t (fun _ st => .ok (.bl true) st) (fun ρ1 st => evE C fs cu elt ρ1 st) (wipeE ρ own) [] (zs.map enc) st = .ok (zs.map g) st := by
    intro zs
    induction zs with
    | nil => intro _; simp only [List.map_nil, compL, if_pos (wok_nil st)]
    | cons z zs ih =>
      intro hz
      obtain ⟨ρ1, h1, h2⟩ := hz z List.mem_cons_self
      simp only [List.map_cons, compL, if_pos (wok_nil st), h1, Res.bind_ok, tru_bl, gc_same, h2, ih fun y hy => hz y (List.mem_cons_of_mem _ hy)]
  rw [ev_frz, ev_comp, hi]
  simp only [Res.bind_ok, List.length_map, if_pos hz, ev_con, key ys h, noExc]
  exact frz_new (lims_map hl)
/-- items made one by one, the state going on: from P k to P (k + 1), each item with R -/
theorem ev_fcompS {α : Type} {ys : List α} {enc : α → D} (P : Nat → Store → Prop) (R : α → D → Prop) (hi : evIt C fs cu it ρ st = .ok (ys.map enc, []) st) (hz : ys.length ≤ big) (h0 : P 0 st) (hm : ∀ k st1, P k st1 → Mod st st1) (hR : ∀ y d, R y d → d.lim = 0)
    (h : ∀ k y st1, ys[k]? = some y → P k st1 → ∃ ρ1 d st2, asgTg t (enc y) (wipeE ρ own) = some ρ1 ∧ evE C fs cu elt ρ1 st1 = .ok d st2 ∧ R y d ∧ P (k + 1) st2) :
    ∃ (ds : List D) (st2 : Store), evE C fs cu (.frz (.comp own t it (.con (.bl true)) elt)) ρ st = .ok (.fl ds) st2 ∧ P ys.length st2 ∧ ds.length = ys.length ∧ ∀ (k : Nat) (y : α) (d : D), ys[k]? = some y → ds[k]? = some d → R y d := by
  have key : ∀ (zs : List α) (k : Nat) (sk : Store), ys.drop k = zs → k + zs.length = ys.length → P k sk → ∃ (ds : List D) (st2 : Store), compL t (fun _ st => .ok (.bl true) st) (fun ρ1 st => evE C fs cu elt ρ1 st) (wipeE ρ own) [] (zs.map enc) sk = .ok ds st2 ∧ P ys.length st2 ∧ ds.length = zs.length ∧ ∀ (j : Nat) (y : α) (d : D), zs[j]? = some y → ds[j]? = some d → R y d := by
    intro zs
    induction zs with
    | nil =>
      intro k sk _ hl hp
      simp at hl
      subst hl
      exact ⟨[], sk, by simp only [List.map_nil, compL, if_pos (wok_nil sk)], hp, rfl, fun j y d z => by simp at z⟩
    | cons z zs ih =>
      intro k sk hd hl hp
      simp only [List.length_cons] at hl
      have hk : ys[k]? = some z := by
        have : (ys.drop k)[0]? = some z := by rw [hd]; rfl
        rw [List.getElem?_drop] at this
        simpa using this
      obtain ⟨ρ1, d, st2, a1, a2, a3, a4⟩ := h k z sk hk hp
      have hd' : ys.drop (k + 1) = zs := by
        rw [List.drop_eq_getElem_cons (by omega)] at hd
        exact (List.cons.inj hd).2
      obtain ⟨ds, st3, b1, b2, b3, b4⟩ := ih (k + 1) st2 hd' (by omega) a4
      refine ⟨d :: ds, st3, ?_, b2, by simp [b3], fun j y e hj he => ?_⟩
      · simp only [List.map_cons, compL, if_pos (wok_nil sk), a1, Res.bind_ok, tru_bl, gc_same, a2, b1]
      · cases j with
        | zero => simp at hj he; subst hj he; exact a3
        | succ j => exact b4 j y e (by simpa using hj) (by simpa using he)
  obtain ⟨ds, st2, b1, b2, b3, b4⟩ := key ys 0 st rfl (by simp) h0
  refine ⟨ds, st2, ?_, b2, b3, b4⟩
  rw [ev_frz, ev_comp, hi]
  simp only [Res.bind_ok, List.length_map, if_pos hz, ev_con, b1, noExc]
  refine frz_mod (hm _ _ b2) (lims_le fun d hd => ?_)
  obtain ⟨j, hj, rfl⟩ := List.getElem_of_mem hd
  have hy : ys[j]? = some (ys[j]'(by omega)) := List.getElem?_eq_getElem _
  rw [hR _ _ (b4 j _ _ hy (List.getElem?_eq_getElem hj))]
  exact Nat.zero_le _
end
/-! ### zip -/
@[simp] theorem zip_fl (st : Store) (xs ys : List D) (st1 : Store) : zipD st (.fl xs) (.fl ys) st1 = .ok (pairsD xs ys, []) st1 := rfl
@[simp] theorem zip_tup (st : Store) (xs ys : List D) (st1 : Store) : zipD st (.tup xs) (.tup ys) st1 = .ok (pairsD xs ys, []) st1 := rfl
@[simp] theorem zip_tf (st : Store) (xs ys : List D) (st1 : Store) : zipD st (.tup xs) (.fl ys) st1 = .ok (pairsD xs ys, []) st1 := rfl
@[simp] theorem zip_ft (st : Store) (xs ys : List D) (st1 : Store) : zipD st (.fl xs) (.tup ys) st1 = .ok (pairsD xs ys, []) st1 := rfl
theorem pairs_map {α β : Type} (f : α → D) (g : β → D) (xs : List α) (ys : List β) : pairsD (xs.map f) (ys.map g) = (xs.zip ys).map fun p => .tup [f p.1, g p.2] := by
  unfold pairsD
  rw [List.zip_map, List.map_map]
  rfl
/-! ### loops -/
/-- a for whose turns are steps on a value: slots and store follow it -/
theorem forL_fold {α β : Type} {b : Env → Store → SRes} {t : Tg} {enc : α → D} (env : β → Option (D) → Env) (sto : β → Store) (step : β → α → β) (I : β → Prop) :
    ∀ {ys : List α} {s : β} {ρ : Env}, I s → (∃ z, ρ = env s z) → (∀ y ∈ ys, ∀ s z, I s → I (step s y) ∧ ∃ ρ1, asgTg t (enc y) (env s z) = some ρ1 ∧ ∃ z', b ρ1 (sto s) = .nxt (env (step s y) z') (sto (step s y))) →
      ∃ z', forL b t [] (ys.map enc) ρ (sto s) = .nxt (env (ys.foldl step s) z') (sto (ys.foldl step s)) ∧ I (ys.foldl step s)
  | [], s, ρ, hI, ⟨z, hz⟩, _ => ⟨z, by rw [List.map_nil, forL_nil, hz]; rfl, hI⟩
  | y :: ys, s, ρ, hI, ⟨z, hz⟩, h => by
    obtain ⟨h1, ρ1, h2, z', h3⟩ := h y List.mem_cons_self s z hI
    obtain ⟨z2, h4, h5⟩ := forL_fold env sto step I (ys := ys) (s := step s y) (ρ := env (step s y) z') h1 ⟨z', rfl⟩ fun y' hy' => h y' (List.mem_cons_of_mem _ hy')
    refine ⟨z2, ?_, h5⟩
    rw [List.map_cons, forL_cons (ρ1 := ρ1) (by rw [hz]; exact h2), h3]
    exact h4
/-- a for by an invariant, its items of a type -/
theorem forL_inv {α : Type} {b : Env → Store → SRes} {t : Tg} {enc : α → D} {ys : List α} (P : Nat → Env → Store → Prop) (hstep : ∀ k y ρ st, ys[k]? = some y → P k ρ st → ∃ ρ1, asgTg t (enc y) ρ = some ρ1 ∧ ∃ ρ' st', (b ρ1 st = .nxt ρ' st' ∨ b ρ1 st = .cnt ρ' st') ∧ P (k + 1) ρ' st')
    {ρ : Env} {st : Store} (h0 : P 0 ρ st) : ∃ ρ' st', forL b t [] (ys.map enc) ρ st = .nxt ρ' st' ∧ P ys.length ρ' st' := by
  have key : ∀ (zs : List α) (k : Nat) (ρ : Env) (st : Store), ys.drop k = zs → k + zs.length = ys.length → P k ρ st → ∃ ρ' st', forL b t [] (zs.map enc) ρ st = .nxt ρ' st' ∧ P ys.length ρ' st' := by
    intro zs
    induction zs with
    | nil =>
      intro k ρ st _ hl hp
      simp at hl
      subst hl
      exact ⟨ρ, st, forL_nil, hp⟩
    | cons z zs ih =>
      intro k ρ st hd hl hp
      simp only [List.length_cons] at hl
      have hk : ys[k]? = some z := by
        have : (ys.drop k)[0]? = some z := by rw [hd]; rfl
        rw [List.getElem?_drop] at this
        simpa using this
      obtain ⟨ρ1, a1, ρ', st', hb, hp'⟩ := hstep k z ρ st hk hp
      have hd' : ys.drop (k + 1) = zs := by
        rw [List.drop_eq_getElem_cons (by omega)] at hd
        exact (List.cons.inj hd).2
      obtain ⟨ρ2, st2, h1, h2⟩ := ih (k + 1) ρ' st' hd' (by omega) hp'
      refine ⟨ρ2, st2, ?_, h2⟩
      rw [List.map_cons, forL_cons a1]
      rcases hb with hb | hb <;> rw [hb] <;> exact h1
  exact key ys 0 ρ st rfl (by simp) h0
end MM
end

section
set_option Elab.async false
set_option linter.all false
set_option maxRecDepth 100000
set_option maxHeartbeats 4000000
set_option exponentiation.threshold 200000
/-! ShPen: the laws' pen: a dict in the first cell; draws, picks. -/
namespace MM.Sh
open PySem MM MM.F
structure Pen where
  cells : List Int
  a : Int
  digits : Int
  count : Int
  fold : Int
def penL (P : Pen) : List (D × D) := [(.str "cells", .fl (P.cells.map .int)), (.str "at", .int P.a), (.str "digits", .int P.digits), (.str "count", .int P.count), (.str "fold", .int P.fold)]
def penC (P : Pen) : Cell := .dic (penL P)
section
variable (P P' : Pen) (r : Store) (i : Int) (l : Nat)
@[simp] theorem idx_cells : idxD (.loc 0) (.str "cells") (penC P :: r) = some (.fl (P.cells.map .int)) := rfl
@[simp] theorem idx_at : idxD (.loc 0) (.str "at") (penC P :: r) = some (.int P.a) := rfl
@[simp] theorem idx_digits : idxD (.loc 0) (.str "digits") (penC P :: r) = some (.int P.digits) := rfl
@[simp] theorem idx_count : idxD (.loc 0) (.str "count") (penC P :: r) = some (.int P.count) := rfl
@[simp] theorem idx_fold : idxD (.loc 0) (.str "fold") (penC P :: r) = some (.int P.fold) := rfl
@[simp] theorem set_at : setD (.loc 0) (.str "at") (.int i) (penC P :: r) = some (penC { P with a := i } :: r) := rfl
@[simp] theorem set_digits : setD (.loc 0) (.str "digits") (.int i) (penC P :: r) = some (penC { P with digits := i } :: r) := rfl
@[simp] theorem set_count : setD (.loc 0) (.str "count") (.int i) (penC P :: r) = some (penC { P with count := i } :: r) := rfl
@[simp] theorem set_fold : setD (.loc 0) (.str "fold") (.int i) (penC P :: r) = some (penC { P with fold := i } :: r) := rfl
theorem pen_lim : Cell.lim (penC P) = 0 := by simp [penC, penL, Cell.lim, D.lims]
theorem mod_pen : Mod (penC P :: r) (penC P' :: r) := Mod.set (st := penC P :: r) (i := 0) (c := penC P') (by rw [pen_lim]; exact Nat.zero_le _)
@[simp] theorem gc_pen : gc (penC P :: r) (penC P' :: r) l = penC P' :: r := gc_mod0 (mod_pen P P' r)
@[simp] theorem ret_pen {d : D} (h : d.lim = 0) : retF (penC P :: r) (penC P' :: r) d = .ok d (penC P' :: r) := by
  have := retF_mod (g := []) (d := d) (mod_pen P P' r) (by omega)
  rwa [List.append_nil] at this
theorem ret_penL {d : D} (h : d.lim ≤ r.length + 1) : retF (penC P :: r) (penC P' :: r) d = .ok d (penC P' :: r) := by
  have := retF_mod (g := []) (d := d) (mod_pen P P' r) (by simpa using h)
  rwa [List.append_nil] at this
theorem frz_penL {xs : List D} (h : D.lims xs ≤ r.length + 1) : frzE (penC P :: r) (.loc (r.length + 1)) (penC P' :: (r ++ [.lst xs])) = .ok (.fl xs) (penC P' :: r) := frz_mod (mod_pen P P' r) (by simpa using h)
@[simp] theorem frz_pen {xs : List D} (h : D.lims xs = 0) : frzE (penC P :: r) (.loc (r.length + 1)) (penC P' :: (r ++ [.lst xs])) = .ok (.fl xs) (penC P' :: r) := frz_penL P P' r (by omega)
@[simp] theorem frz_pen0 {xs : List D} (h : D.lims xs = 0) : frzE [penC P] (.loc 1) [penC P', .lst xs] = .ok (.fl xs) [penC P'] := frz_pen P P' [] h
@[simp] theorem frz_nil {xs : List D} (h : D.lims xs = 0) : frzE [] (.loc 0) [.lst xs] = .ok (.fl xs) [] := frz_new0 (st := []) h
end
/-- a pen with draws left -/
structure Pn (c : Nat) (P : Pen) : Prop where
  a0 : 0 ≤ P.a
  d0 : 0 ≤ P.digits
  c0 : 0 ≤ P.count
  c1 : P.count + c ≤ 2 ^ 40
  f0 : 0 ≤ P.fold
  f1 : P.fold < 2147483563
theorem Pn.mono {c c' : Nat} {P : Pen} (h : Pn c P) (hc : c' ≤ c) : Pn c' P := ⟨h.a0, h.d0, h.c0, by have := h.c1; omega, h.f0, h.f1⟩
/-! ### numbers -/
theorem pow18 (st : Store) : binD .Pow (.int 10) (.int 18) st = .ok (.int 1000000000000000000) st := by
  simp only [binD]
  rw [if_pos (by decide)]
  rfl
theorem pow12 (st : Store) : binD .Pow (.int 10) (.int 12) st = .ok (.int 1000000000000) st := by
  simp only [binD]
  rw [if_pos (by decide)]
  rfl
theorem mod_pos {i j : Int} (st : Store) (h : 0 < j) : binD .Mod (.int i) (.int j) st = .ok (.int (i % j)) st := by simp only [binD, if_pos h]
theorem log_lt {j : Int} {k : Nat} (h : j.natAbs < 2 ^ k) (h0 : 0 < k) : intLog j < k := by
  unfold intLog
  by_cases h1 : j.natAbs = 0
  · rw [h1]; simpa using h0
  · exact (Nat.log2_lt h1).mpr h
theorem div_ok {i j : Int} (st : Store) (h : 0 < j) (h2 : j.natAbs < 2 ^ 9000) : binD .FloorDiv (.int i) (.int j) st = .ok (.int (i / j)) st := by
  have := log_lt h2 (by decide)
  simp only [binD]
  rw [if_pos ⟨h, this⟩]
theorem mul_ok {i j : Int} (st : Store) (h : i.natAbs < 2 ^ 100000) (h2 : j.natAbs < 2 ^ 100000) : binD .Mult (.int i) (.int j) st = .ok (.int (i * j)) st := by
  have a := log_lt h (by decide)
  have b := log_lt h2 (by decide)
  simp only [binD, mulD]
  rw [if_pos (by omega)]
theorem pow_up {a : Nat} {k l : Nat} (h : a < 2 ^ k) (hl : k ≤ l) : a < 2 ^ l := Nat.lt_of_lt_of_le h (Nat.pow_le_pow_right (by decide) hl)
theorem mul_small {i j : Int} (st : Store) (h : i.natAbs < 2 ^ 64) (h2 : j.natAbs < 2 ^ 64) : binD .Mult (.int i) (.int j) st = .ok (.int (i * j)) st := mul_ok st (pow_up h (by decide)) (pow_up h2 (by decide))
theorem div_small {i j : Int} (st : Store) (h : 0 < j) (h2 : j < 2 ^ 64) : binD .FloorDiv (.int i) (.int j) st = .ok (.int (i / j)) st := div_ok st h (pow_up (k := 64) (by omega) (by decide))
@[simp] theorem idx_fl_nat {st : Store} {xs : List D} {i : Int} : idxD (.fl xs) (.int i) st = (ixOf xs.length i).bind fun j => xs[j]? := rfl
@[simp] theorem idx_tup_nat {st : Store} {xs : List D} {i : Int} : idxD (.tup xs) (.int i) st = (ixOf xs.length i).bind fun j => xs[j]? := rfl
theorem ix_pos {n : Nat} {i : Int} (h0 : 0 ≤ i) (h : i < n) : ixOf n i = some i.toNat := by unfold ixOf; rw [if_pos h0, if_pos h]
/-! ### draws -/
section
variable {p : Str → Option Fn} {P : Pen} {c : Nat} {m : Int} {r : Store}
/-- the cell that may be taken -/
theorem draw_cell (h : Pn c P) : ∃ P2 z, Pn c P2 ∧ ∀ C fs cu, evS C fs cu s__law_draw_2 [some (.loc 0), some (.int m), none, none, none] (penC P :: r) = .nxt [some (.loc 0), some (.int m), z, none, none] (penC P2 :: r) := by
  obtain ⟨a0, d0, c0, c1, f0, f1⟩ := h
  by_cases t1 : P.digits = 0
  · by_cases t2 : P.a < P.cells.length
    · have hi : P.a.toNat < P.cells.length := by omega
      have hc : ixOf P.cells.length P.a = some P.a.toNat := ix_pos a0 t2
      by_cases t3 : 1000000000000000000 ≤ P.cells[P.a.toNat]
      · refine ⟨{ P with a := P.a + 1, digits := P.cells[P.a.toNat] - 1000000000000000000 }, some (.int P.cells[P.a.toNat]), ⟨by simp; omega, by simp; omega, c0, c1, f0, f1⟩, fun C fs cu => ?_⟩
        simp [s__law_draw_2, k__law_draw_2, s__law_draw_3, s__law_draw_4, s__law_draw_5, k__law_draw_3, s__law_draw_6, t1, t2, hc, hi, pow18, t3]
      · have hf : ∀ st, binD .Mult (.int P.fold) (.int 48271) st = .ok (.int (P.fold * 48271)) st := fun st => mul_small _ (by omega) (by decide)
        refine ⟨{ P with a := P.a + 1, fold := (P.fold * 48271 + P.cells[P.a.toNat]) % 2147483563 }, some (.int P.cells[P.a.toNat]), ⟨by simp; omega, d0, c0, c1, by simp; omega, by simp; omega⟩, fun C fs cu => ?_⟩
        simp [s__law_draw_2, k__law_draw_2, s__law_draw_3, s__law_draw_4, s__law_draw_5, k__law_draw_4, s__law_draw_7, t1, t2, hc, hi, pow18, t3, hf, mod_pos (j := 2147483563) _ (by decide)]
    · refine ⟨P, none, ⟨a0, d0, c0, c1, f0, f1⟩, fun C fs cu => ?_⟩
      simp [s__law_draw_2, t1, t2]
  · refine ⟨P, none, ⟨a0, d0, c0, c1, f0, f1⟩, fun C fs cu => ?_⟩
    simp [s__law_draw_2, t1]
theorem draw_ok [H__law_draw p] (h : Pn (c + 1) P) (hm : 0 < m) (hm2 : m < 2 ^ 60) : ∃ d P', 0 ≤ d ∧ d < m ∧ Pn c P' ∧ ∀ n fs, callN p (n + 1) fs "_law_draw" [.loc 0, .int m] (penC P :: r) = .ok (.int d) (penC P' :: r) := by
  obtain ⟨a0, d0, c0, c1, f0, f1⟩ := h
  obtain ⟨P2, z, hP2, e2⟩ := draw_cell (P := { P with count := P.count + 1 }) (c := c) (m := m) (r := r) ⟨a0, d0, by simp; omega, by simp; omega, f0, f1⟩
  obtain ⟨a0, d0, c0, c1, f0, f1⟩ := hP2
  have hb := H__law_draw.h (p := p)
  by_cases t : 0 < P2.digits
  · refine ⟨P2.digits % m, { P2 with digits := P2.digits / m }, Int.emod_nonneg _ (by omega), Int.emod_lt_of_pos _ hm, ⟨a0, by simp; exact Int.ediv_nonneg d0 (by omega), c0, c1, f0, f1⟩, fun n fs => ?_⟩
    rw [call_fn hb (by decide) rfl]
    simp [b__law_draw, k__law_draw_1, s__law_draw_1, e2, s__law_draw_8, k__law_draw_5, t, s__law_draw_9, s__law_draw_10, s__law_draw_11, mod_pos _ hm, div_small _ hm (by omega)]
  · have hB0 : 0 ≤ P2.fold + P2.count * 8513 + 61 := by omega
    refine ⟨(P2.fold + P2.count * 8513 + 61) ^ 19 % 2305843009213693951 / 256 % m, P2, Int.emod_nonneg _ (by omega), Int.emod_lt_of_pos _ hm, ⟨a0, d0, c0, c1, f0, f1⟩, fun n fs => ?_⟩
    have hpow : binD .Pow (.int (P2.fold + P2.count * 8513 + 61)) (.int 19) (penC P2 :: r) = .ok (.int ((P2.fold + P2.count * 8513 + 61) ^ 19)) (penC P2 :: r) := by
      simp only [binD]
      rw [if_pos ⟨by decide, by decide, by omega⟩]
      rfl
    have hmul : binD .Mult (.int P2.count) (.int 8513) (penC P2 :: r) = .ok (.int (P2.count * 8513)) (penC P2 :: r) := mul_small _ (by omega) (by decide)
    rw [call_fn hb (by decide) rfl]
    simp [b__law_draw, k__law_draw_1, s__law_draw_1, e2, s__law_draw_8, t, s__law_draw_12, s__law_draw_13, hpow, hmul, mod_pos _ hm, mod_pos (j := 2305843009213693951) _ (by decide), div_small (j := 256) _ (by decide) (by decide)]
/-- a pick out of a written list -/
theorem pick_ok [H__law_draw p] [H__law_pick p] {xs : List D} (h : Pn (c + 1) P) (h0 : xs ≠ []) (hz : xs.length < 2 ^ 59) (hl : ∀ d ∈ xs, d.lim = 0) : ∃ d P', d ∈ xs ∧ Pn c P' ∧ ∀ n fs, callN p (n + 2) fs "_law_pick" [.loc 0, .fl xs] (penC P :: r) = .ok d (penC P' :: r) := by
  have hp : 0 < xs.length := List.length_pos_iff.mpr h0
  obtain ⟨d, P', h1, h2, h3, h4⟩ := draw_ok (p := p) (P := P) (c := c) (m := xs.length) (r := r) h (by omega) (by omega)
  have hi : d.toNat < xs.length := by omega
  have hm : xs[d.toNat] ∈ xs := List.getElem_mem hi
  refine ⟨xs[d.toNat], P', hm, h3, fun n fs => ?_⟩
  rw [call_fn (H__law_pick.h (p := p)) (by decide) rfl]
  simp [b__law_pick, k__law_pick_1, s__law_pick_1, h4, ix_pos h1 h2, hi, hl _ hm]
/-- the pen made -/
theorem pen_ok [H__law_pen p] {ns : List Int} (hz : ns.length ≤ 63) : ∃ P, Pn 1000000000 P ∧ ∀ n fs, callN p (n + 1) fs "_law_pen" [.fl (ns.map .int)] [] = .ok (.loc 0) [penC P] := by
  have key : ∃ k : Int, 0 ≤ k ∧ k < 1000000009 ∧ ∀ C fs cu, ∃ z, evS C fs cu s__law_pen_2 [some (.fl (ns.map .int)), some (.int 0), none] [] = .nxt [some (.fl (ns.map .int)), some (.int k), z] [] := by
    refine ⟨ns.foldl (fun k x => (k * 59 + x) % 1000000009) 0, ?_⟩
    have b : ∀ (l : List Int) (k : Int), 0 ≤ k ∧ k < 1000000009 → 0 ≤ l.foldl (fun k x => (k * 59 + x) % 1000000009) k ∧ l.foldl (fun k x => (k * 59 + x) % 1000000009) k < 1000000009 := by
      intro l
      induction l with
      | nil => intro k h; exact h
      | cons x l ih => intro k h; exact ih _ ⟨Int.emod_nonneg _ (by decide), Int.emod_lt_of_pos _ (by decide)⟩
    refine ⟨(b ns 0 (by decide)).1, (b ns 0 (by decide)).2, fun C fs cu => ?_⟩
    obtain ⟨z', h1, _⟩ := forL_fold (b := fun ρ st => evSs C fs cu k__law_pen_2 ρ st) (t := .n 2) (enc := D.int) (fun (k : Int) z => [some (.fl (ns.map .int)), some (.int k), z]) (fun _ => []) (fun k x => (k * 59 + x) % 1000000009) (fun k => 0 ≤ k ∧ k < 1000000009)
      (ys := ns) (s := 0) (ρ := [some (.fl (ns.map .int)), some (.int 0), none]) (by decide) ⟨none, rfl⟩ fun y hy s z hs => ⟨⟨Int.emod_nonneg _ (by decide), Int.emod_lt_of_pos _ (by decide)⟩, _, rfl, some (.int y), by
        have hm : binD .Mult (.int s) (.int 59) ([] : Store) = .ok (.int (s * 59)) [] := mul_small _ (by omega) (by decide)
        simp [k__law_pen_2, s__law_pen_3, hm, mod_pos (j := 1000000009) _ (by decide)]⟩
    refine ⟨z', ?_⟩
    simp only [s__law_pen_2, ev_for, ev_ite_e, ev_v, List.getElem?_cons_zero, Res.bind_ok, src_fl, SRes.of_ok]
    exact h1
  obtain ⟨k, k0, k1, hk⟩ := key
  refine ⟨⟨ns, 0, 0, 0, k⟩, ⟨by simp, by simp, by simp, by simp, k0, by simp; omega⟩, fun n fs => ?_⟩
  obtain ⟨z, hz⟩ := hk (callN p n) fs none
  have hr : retF [] [Cell.dic (penL ⟨ns, 0, 0, 0, k⟩)] (.loc 0) = .ok (.loc 0) [penC ⟨ns, 0, 0, 0, k⟩] := by
    have e : frzD 0 [Cell.dic (penL ⟨ns, 0, 0, 0, k⟩)] 9 (.loc 0) = .loc 0 := rfl
    unfold retF
    rw [show ([] : Store).length = 0 from rfl, e, if_neg (by simp)]
    unfold gc
    rw [if_neg (by simp)]
    rfl
  rw [call_fn (H__law_pen.h (p := p)) (by decide) rfl]
  simp [b__law_pen, k__law_pen_1, s__law_pen_1, hz, s__law_pen_4]
  exact hr
end
end MM.Sh
end

section
set_option Elab.async false
set_option linter.all false
set_option maxRecDepth 100000
set_option maxHeartbeats 4000000
set_option exponentiation.threshold 200000
/-! ShRat: ratios: lowest terms, told, the laws' own sums. -/
namespace MM.Sh
open PySem MM MM.F
/-! ### pure -/
abbrev Rt := Int × Int
def rt (q : Rt) : D := .tup [.int q.1, .int q.2]
def gI (t b : Int) : Int := (Nat.gcd t.natAbs b.natAbs : Nat)
def lowQ (t b : Int) : Rt := (t / gI t b, b / gI t b)
/-- in lowest terms, of a size -/
structure Red (k : Nat) (q : Rt) : Prop where
  pos : 0 < q.2
  co : Nat.gcd q.1.natAbs q.2.natAbs = 1
  tz : q.1.natAbs < 2 ^ k
  bz : q.2.natAbs < 2 ^ k
theorem Red.mono {k l : Nat} {q : Rt} (h : Red k q) (hl : k ≤ l) : Red l q := ⟨h.pos, h.co, pow_up h.tz hl, pow_up h.bz hl⟩
@[simp] theorem lim_rt (q : Rt) : (rt q).lim = 0 := by simp [rt]
theorem gI_pos {t b : Int} (hb : 0 < b) : 0 < gI t b := by
  have : 0 < Nat.gcd t.natAbs b.natAbs := Nat.gcd_pos_of_pos_right _ (by omega)
  unfold gI; omega
theorem gI_le {t b : Int} (hb : 0 < b) : (gI t b).natAbs ≤ b.natAbs := by
  have := Nat.le_of_dvd (show 0 < b.natAbs by omega) (Nat.gcd_dvd_right t.natAbs b.natAbs)
  unfold gI; omega
theorem low_red {t b : Int} {k : Nat} (hb : 0 < b) (ht : t.natAbs < 2 ^ k) (hz : b.natAbs < 2 ^ k) : Red k (lowQ t b) := by
  have hp := gI_pos (t := t) hb
  have hpn : 0 < Nat.gcd t.natAbs b.natAbs := by unfold gI at hp; omega
  have e1 : (t / gI t b).natAbs = t.natAbs / Nat.gcd t.natAbs b.natAbs := by
    unfold gI
    rw [Int.natAbs_ediv_of_dvd (Int.natAbs_dvd_natAbs.mp (by simpa using Nat.gcd_dvd_left t.natAbs b.natAbs))]
    rfl
  have e2 : (b / gI t b).natAbs = b.natAbs / Nat.gcd t.natAbs b.natAbs := by
    unfold gI
    rw [Int.natAbs_ediv_of_dvd (Int.natAbs_dvd_natAbs.mp (by simpa using Nat.gcd_dvd_right t.natAbs b.natAbs))]
    rfl
  refine ⟨?_, ?_, ?_, ?_⟩
  · have h1 : Nat.gcd t.natAbs b.natAbs ≤ b.natAbs := Nat.le_of_dvd (by omega) (Nat.gcd_dvd_right _ _)
    have h2 : 0 < b.natAbs / Nat.gcd t.natAbs b.natAbs := Nat.div_pos h1 hpn
    have h3 : 0 ≤ b / gI t b := Int.ediv_nonneg (by omega) (by omega)
    show 0 < b / gI t b
    omega
  · show Nat.gcd (t / gI t b).natAbs (b / gI t b).natAbs = 1
    rw [e1, e2, Nat.gcd_div (Nat.gcd_dvd_left _ _) (Nat.gcd_dvd_right _ _), Nat.div_self hpn]
  · show (t / gI t b).natAbs < _
    rw [e1]; exact Nat.lt_of_le_of_lt (Nat.div_le_self _ _) ht
  · show (b / gI t b).natAbs < _
    rw [e2]; exact Nat.lt_of_le_of_lt (Nat.div_le_self _ _) hz
theorem Red.by {k : Nat} {q : Rt} (h : Red k q) {u : Int} (hu : 0 < u) : lowQ (q.1 * u) (q.2 * u) = q := by
  have hg : gI (q.1 * u) (q.2 * u) = u := by
    unfold gI
    rw [Int.natAbs_mul, Int.natAbs_mul, Nat.gcd_mul_right, h.co, Nat.one_mul]
    omega
  unfold lowQ
  rw [hg, Int.mul_ediv_cancel _ (by omega), Int.mul_ediv_cancel _ (by omega)]
theorem Red.low {k : Nat} {q : Rt} (h : Red k q) : lowQ q.1 q.2 = q := by
  have := h.by (u := 1) (by decide)
  rwa [Int.mul_one, Int.mul_one] at this
theorem Red.one {k : Nat} {i : Int} (h : i.natAbs < 2 ^ (k + 1)) : Red (k + 1) (i, 1) := ⟨by show (0 : Int) < 1; decide, by simp, h, by simp⟩
/-! ### walked -/
section
variable {p : Str → Option Fn} {n : Nat} {fs : List Fr} {st : Store} {C : Orc}
theorem eq_rt (x y : Rt) : eqD (rt x) (rt y) st = some (decide (x = y)) := by
  unfold rt
  simp only [eqD, eqP, toP, toPw, toPws, Option.map_some, plainP, PyData.canLay0, PyData.canLayAll0, PyData.depth, PyData.depthAll, PyData.eqv, PyData.eqvAll]
  obtain ⟨a, b⟩ := x
  obtain ⟨c, d⟩ := y
  by_cases h : a = c <;> by_cases h2 : b = d <;> simp [h, h2]
@[simp] theorem cmp_rt (x y : Rt) : cmpD .Eq (rt x) (rt y) st = some (decide (x = y)) := by simp only [cmpD, eq_rt]
@[simp] theorem cmp_rtn (x y : Rt) : cmpD .NotEq (rt x) (rt y) st = some (!decide (x = y)) := by simp only [cmpD, eq_rt, Option.map_some]
@[simp] theorem rt0 (q : Rt) : idxD (rt q) (.int 0) st = some (.int q.1) := rfl
@[simp] theorem rt1 (q : Rt) : idxD (rt q) (.int 1) st = some (.int q.2) := rfl
@[simp] theorem rt_len (q : Rt) : bltD .blen [rt q] st = .ok (.int 2) st := rfl
theorem mulQ {i j : Int} {k : Nat} (h : i.natAbs < 2 ^ k) (h2 : j.natAbs < 2 ^ k) (hk : k ≤ 100000 := by omega) : binD .Mult (.int i) (.int j) st = .ok (.int (i * j)) st := mul_ok st (pow_up h hk) (pow_up h2 hk)
theorem gcd_step {a b : Nat} (hb : 0 < b) : evSs C fs none k__law_gcd_2 [some (.int a), some (.int b)] st = .nxt [some (.int b), some (.int (a % b : Nat))] st := by
  have : binD .Mod (.int a) (.int b) st = .ok (.int (a % b : Nat)) st := by
    rw [mod_pos _ (by omega)]
    simp
  simp [k__law_gcd_2, s__law_gcd_3, this, asgN]
theorem gcd_test {a b : Nat} : evT C fs none (.cmp .Gt (.v 1) (.con (.int 0))) [some (.int a), some (.int b)] st = .ok (decide (0 < b)) st := by
  simp
theorem whl_gcd : ∀ (m j a b : Nat), b ≤ a → a * b < 2 ^ m →
    whlN (fun ρ st => evT C fs none (.cmp .Gt (.v 1) (.con (.int 0))) ρ st) (fun ρ st => evSs C fs none k__law_gcd_2 ρ st) (m + 2 + j) [some (.int a), some (.int b)] st = .nxt [some (.int (Nat.gcd a b)), some (.int 0)] st := by
  intro m
  induction m with
  | zero =>
    intro j a b hab h
    have hb : b = 0 := by
      rcases Nat.eq_zero_or_pos b with z | z
      · exact z
      · have := Nat.mul_pos (show 0 < a by omega) z; omega
    subst hb
    rw [show 0 + 2 + j = (j + 1) + 1 by omega]
    simp only [whlN, gcd_test]
    simp
  | succ m ih =>
    intro j a b hab h
    rw [show m + 1 + 2 + j = (m + 2 + j) + 1 by omega]
    simp only [whlN, gcd_test]
    rcases Nat.eq_zero_or_pos b with z | z
    · subst z; simp
    · have hr : 2 * (a % b) < a + 1 := by
        have h1 := Nat.mod_lt a z
        have h2 := Nat.div_add_mod a b
        have h3 : 1 ≤ a / b := (Nat.one_le_div_iff z).mpr hab
        have h4 : b * 1 ≤ b * (a / b) := Nat.mul_le_mul_left b h3
        omega
      have hlt : b * (a % b) < 2 ^ m := by
        have h2 : 2 * (a % b) ≤ a := by omega
        have h5 : b * (2 * (a % b)) ≤ b * a := Nat.mul_le_mul_left b h2
        have h6 : b * (2 * (a % b)) = 2 * (b * (a % b)) := by rw [Nat.mul_left_comm]
        have h7 : b * a = a * b := Nat.mul_comm _ _
        rw [Nat.pow_succ] at h
        omega
      have := ih j b (a % b) (Nat.le_of_lt (Nat.mod_lt a z)) hlt
      simp only [z, decide_true, SRes.of_ok, if_true, gcd_step z, this]
      congr 3
      rw [Nat.gcd_comm b, ← Nat.gcd_rec, Nat.gcd_comm]
theorem whl_gcd2 {m j a b : Nat} (h : a * b < 2 ^ m) :
    whlN (fun ρ st => evT C fs none (.cmp .Gt (.v 1) (.con (.int 0))) ρ st) (fun ρ st => evSs C fs none k__law_gcd_2 ρ st) (m + 3 + j) [some (.int a), some (.int b)] st = .nxt [some (.int (Nat.gcd a b)), some (.int 0)] st := by
  by_cases hab : b ≤ a
  · rw [show m + 3 + j = m + 2 + (j + 1) by omega]
    exact whl_gcd m (j + 1) a b hab h
  · rw [show m + 3 + j = (m + 2 + j) + 1 by omega]
    simp only [whlN, gcd_test]
    have hb : 0 < b := by omega
    simp only [hb, decide_true, SRes.of_ok, if_true, gcd_step hb, Nat.mod_eq_of_lt (show a < b by omega)]
    rw [whl_gcd m j b a (by omega) (by rw [Nat.mul_comm]; exact h), Nat.gcd_comm]
theorem law_gcd [H__law_gcd p] {a b : Int} (ha : a.natAbs < 2 ^ 9000) (hb : b.natAbs < 2 ^ 9000) : callN p (n + 1) fs "_law_gcd" [.int a, .int b] st = .ok (.int (gI a b)) st := by
  have hab : ∀ i : Int, bltD .babs [.int i] st = .ok (.int i.natAbs) st := fun i => by
    simp only [bltD]
    congr 2
    split <;> omega
  have hw : whlN (fun ρ st => evT (callN p n) fs none (.cmp .Gt (.v 1) (.con (.int 0))) ρ st) (fun ρ st => evSs (callN p n) fs none k__law_gcd_2 ρ st) fuelW [some (.int a.natAbs), some (.int b.natAbs)] st = .nxt [some (.int (gI a b)), some (.int 0)] st := by
    have : fuelW = 18000 + 3 + (fuelW - 18003) := by unfold fuelW; omega
    rw [this]
    refine whl_gcd2 ?_
    have h1 : a.natAbs * b.natAbs < 2 ^ 9000 * 2 ^ 9000 := Nat.mul_lt_mul'' ha hb
    rw [← Nat.pow_add] at h1
    exact h1
  rw [call_fn (H__law_gcd.h (p := p)) (by decide) rfl]
  simp only [b__law_gcd, k__law_gcd_1, ev_ss1, s__law_gcd_1, s__law_gcd_2, s__law_gcd_4]
  simp [hab, asgN, -ev_t, hw]
theorem lowest_ok [H_lowest p] {t b : Int} (hb : 0 < b) (hz : b.natAbs < 2 ^ 9000) : callN p (n + 1) fs "lowest" [.int t, .int b] st = .ok (rt (lowQ t b)) st := by
  have hp := gI_pos (t := t) hb
  have hl := Nat.lt_of_le_of_lt (gI_le (t := t) hb) hz
  have hg : bltD .bgcd [.int t, .int b] st = .ok (.int (gI t b)) st := rfl
  rw [call_fn (H_lowest.h (p := p)) (by decide) rfl]
  simp [b_lowest, k_lowest_1, s_lowest_1, s_lowest_2, hg, div_ok _ hp hl, rt, lowQ]
  simp [big]
theorem low_ok [H__law_gcd p] [H__law_low p] {t b : Int} (hb : 0 < b) (ht : t.natAbs < 2 ^ 9000) (hz : b.natAbs < 2 ^ 9000) : callN p (n + 2) fs "_law_low" [.int t, .int b] st = .ok (rt (lowQ t b)) st := by
  have hp := gI_pos (t := t) hb
  have hl := Nat.lt_of_le_of_lt (gI_le (t := t) hb) hz
  rw [call_fn (H__law_low.h (p := p)) (by decide) rfl]
  simp [b__law_low, k__law_low_1, s__law_low_1, s__law_low_2, law_gcd ht hz, div_ok _ hp hl, rt, lowQ]
  simp [big]
/-! isinstance -/
def wholeB : D → Bool | .int _ => true | _ => false
theorem whole_ok [H_is_whole p] (d : D) : callN p (n + 1) fs "is_whole" [d] st = .ok (.bl (wholeB d)) st := by
  rw [call_fn (H_is_whole.h (p := p)) (by decide) rfl]
  cases d <;> simp [b_is_whole, k_is_whole_1, s_is_whole_1, isTys, isTy, wholeB]
theorem is_int_ok [H__law_is_int p] (d : D) : callN p (n + 1) fs "_law_is_int" [d] st = .ok (.bl (wholeB d)) st := by
  rw [call_fn (H__law_is_int.h (p := p)) (by decide) rfl]
  cases d <;> simp [b__law_is_int, k__law_is_int_1, s__law_is_int_1, isTys, isTy, wholeB]
/-- a place holds a dict -/
def Okd (st : Store) : D → Prop | .loc n => ∃ kvs, st[n]? = some (.dic kvs) | _ => True
/-- the items of a tuple or a list that nobody changes -/
def seqX : D → Option (List D) | .tup xs => some xs | .fl xs => some xs | _ => none
/-- two whole numbers -/
def pairX : D → Option Rt := fun d => match seqX d with | some [.int a, .int b] => some (a, b) | _ => none
def ratioB (d : D) : Bool := wholeB d || (match pairX d with | some q => decide (1 ≤ q.2) | none => false)
theorem sq_ty {d : D} (h : Okd st d) : isTys [.tuple, .list] d st = some (seqX d).isSome := by
  cases d <;> simp [isTys, isTy, seqX]
  obtain ⟨kvs, e⟩ := h
  rw [e]
  rfl
theorem sq_len {d : D} {xs : List D} (h : seqX d = some xs) : bltD .blen [d] st = .ok (.int xs.length) st := by
  cases d <;> simp [seqX] at h <;> subst h <;> rfl
theorem sq_idx {d : D} {xs : List D} {i : Int} (h : seqX d = some xs) : idxD d (.int i) st = (ixOf xs.length i).bind fun j => xs[j]? := by
  cases d <;> simp [seqX] at h <;> subst h <;> rfl
theorem sq_src {d : D} {xs : List D} (h : seqX d = some xs) : srcOf st d st = .ok (xs, []) st := by
  cases d <;> simp [seqX] at h <;> subst h <;> simp [srcOf]
theorem sq_lim {d : D} {xs : List D} (h : seqX d = some xs) : d.lim = D.lims xs := by
  cases d <;> simp [seqX] at h <;> subst h <;> simp
theorem sq_okd {d : D} {xs : List D} (h : seqX d = some xs) : Okd st d := by
  cases d <;> simp [seqX] at h <;> trivial
theorem ratio_is [H_is_whole p] [H_is_ratio p] {d : D} (h : Okd st d) : callN p (n + 2) fs "is_ratio" [d] st = .ok (.bl (ratioB d)) st := by
  rw [call_fn (H_is_ratio.h (p := p)) (by decide) rfl]
  by_cases hw : wholeB d = true
  · simp [b_is_ratio, k_is_ratio_1, s_is_ratio_1, k_is_ratio_2, s_is_ratio_2, whole_ok, hw, ratioB]
  · have hw : wholeB d = false := by simpa using hw
    cases hs : seqX d with
    | none => simp [b_is_ratio, k_is_ratio_1, s_is_ratio_1, s_is_ratio_3, k_is_ratio_3, s_is_ratio_4, whole_ok, hw, ratioB, sq_ty h, hs, pairX]
    | some xs =>
      by_cases h2 : xs.length = 2
      · match xs, h2, hs with
        | [a, b], _, hs =>
          by_cases ha : wholeB a = true
          · by_cases hb : wholeB b = true
            · cases a <;> simp [wholeB] at ha
              cases b <;> simp [wholeB] at hb
              simp [b_is_ratio, k_is_ratio_1, s_is_ratio_1, s_is_ratio_3, s_is_ratio_5, whole_ok, hw, ratioB, sq_ty h, hs, pairX, sq_len hs, sq_idx hs, ixOf]
              simp [wholeB]
            · have hb' : wholeB b = false := by simpa using hb
              have hp : pairX d = none := by
                unfold pairX
                rw [hs]
                cases a <;> cases b <;> first | rfl | (simp [wholeB] at hb')
              simp [b_is_ratio, k_is_ratio_1, s_is_ratio_1, s_is_ratio_3, s_is_ratio_5, whole_ok, hw, ratioB, sq_ty h, hs, hp, sq_len hs, sq_idx hs, ixOf, ha, hb']
          · have ha' : wholeB a = false := by simpa using ha
            have hp : pairX d = none := by
              unfold pairX
              rw [hs]
              cases a <;> cases b <;> first | rfl | (simp [wholeB] at ha')
            simp [b_is_ratio, k_is_ratio_1, s_is_ratio_1, s_is_ratio_3, s_is_ratio_5, whole_ok, hw, ratioB, sq_ty h, hs, hp, sq_len hs, sq_idx hs, ixOf, ha']
      · have hp : pairX d = none := by
          unfold pairX
          rw [hs]
          match xs, h2 with
          | [], _ => rfl
          | [a], _ => cases a <;> rfl
          | [a, b], h2 => exact absurd rfl h2
          | a :: b :: c :: r, _ => cases a <;> cases b <;> rfl
        have h2' : ¬ (xs.length : Int) = 2 := by omega
        simp [b_is_ratio, k_is_ratio_1, s_is_ratio_1, s_is_ratio_3, k_is_ratio_3, s_is_ratio_4, whole_ok, hw, ratioB, sq_ty h, hs, hp, sq_len hs, h2']
/-- what told tells -/
def toldQ (d : D) : Rt := match d with | .int i => (i, 1) | d => match pairX d with | some q => lowQ q.1 q.2 | none => (0, 1)
/-- its bottom is not too great -/
def Fit (d : D) : Prop := ∀ q, pairX d = some q → q.2.natAbs < 2 ^ 9000
theorem told_ok [H_is_whole p] [H_is_ratio p] [H_lowest p] [H_told p] {d : D} (hr : ratioB d = true) (hf : Fit d) : callN p (n + 3) fs "told" [d] st = .ok (rt (toldQ d)) st := by
  rw [call_fn (H_told.h (p := p)) (by decide) rfl]
  by_cases hw : wholeB d = true
  · cases d <;> simp [wholeB] at hw
    simp [b_told, k_told_1, s_told_1, s_told_3, k_told_3, s_told_4, ratio_is (show Okd st (.int _) from trivial), whole_ok, wholeB, ratioB, toldQ, rt]
    simp [big]
  · have hw : wholeB d = false := by simpa using hw
    have hr' := hr
    simp only [ratioB, hw, Bool.false_or] at hr'
    cases hp : pairX d with
    | none => rw [hp] at hr'; cases hr'
    | some q =>
      rw [hp] at hr'
      have hb : 0 < q.2 := by have := of_decide_eq_true hr'; omega
      have hs : seqX d = some [.int q.1, .int q.2] := by
        unfold pairX at hp
        split at hp
        · rename_i a b e
          cases hp
          exact e
        · cases hp
      have ht : toldQ d = lowQ q.1 q.2 := by
        unfold toldQ
        split
        · simp [wholeB] at hw
        · rw [hp]
      simp [b_told, k_told_1, s_told_1, s_told_3, s_told_5, ratio_is (sq_okd hs), hr, whole_ok, hw, sq_idx hs, ixOf, lowest_ok hb (hf q hp), ht]
/-! ### the laws' sums -/
def addQ (x y : Rt) : Rt := lowQ (x.1 * y.2 + y.1 * x.2) (x.2 * y.2)
def mulQt (x y : Rt) : Rt := lowQ (x.1 * y.1) (x.2 * y.2)
def lessQ (x y : Rt) : Bool := decide (x.1 * y.2 < y.1 * x.2)
theorem less_ok [H__law_less p] {k l : Nat} {x y : Rt} (hx : Red k x) (hy : Red l y) (hk : k ≤ 100000 := by omega) (hl : l ≤ 100000 := by omega) : callN p (n + 1) fs "_law_less" [rt x, rt y] st = .ok (.bl (lessQ x y)) st := by
  rw [call_fn (H__law_less.h (p := p)) (by decide) rfl]
  simp [b__law_less, k__law_less_1, s__law_less_1, mul_ok st (pow_up hx.tz hk) (pow_up hy.bz hl), mul_ok st (pow_up hy.tz hl) (pow_up hx.bz hk), lessQ]
theorem rless_ok [H_rless p] {k l : Nat} {x y : Rt} (hx : Red k x) (hy : Red l y) (hk : k ≤ 100000 := by omega) (hl : l ≤ 100000 := by omega) : callN p (n + 1) fs "rless" [rt x, rt y] st = .ok (.bl (lessQ x y)) st := by
  rw [call_fn (H_rless.h (p := p)) (by decide) rfl]
  simp [b_rless, k_rless_1, s_rless_1, mul_ok st (pow_up hx.tz hk) (pow_up hy.bz hl), mul_ok st (pow_up hy.tz hl) (pow_up hx.bz hk), lessQ]
theorem mul_lt {i j : Int} {k l : Nat} (h : i.natAbs < 2 ^ k) (h2 : j.natAbs < 2 ^ l) : (i * j).natAbs < 2 ^ (k + l) := by
  rw [Int.natAbs_mul, Nat.pow_add]
  exact Nat.mul_lt_mul'' h h2
theorem add_lt {i j : Int} {k : Nat} (h : i.natAbs < 2 ^ k) (h2 : j.natAbs < 2 ^ k) : (i + j).natAbs < 2 ^ (k + 1) := by
  rw [Nat.pow_succ]; omega
theorem mulQ_red {k l : Nat} {x y : Rt} (hx : Red k x) (hy : Red l y) : Red (k + l) (mulQt x y) := low_red (Int.mul_pos hx.pos hy.pos) (mul_lt hx.tz hy.tz) (mul_lt hx.bz hy.bz)
theorem addQ_red {k l : Nat} {x y : Rt} (hx : Red k x) (hy : Red l y) : Red (k + l + 1) (addQ x y) := low_red (Int.mul_pos hx.pos hy.pos) (add_lt (mul_lt hx.tz hy.bz) (by rw [Nat.add_comm]; exact mul_lt hy.tz hx.bz)) (pow_up (mul_lt hx.bz hy.bz) (by omega))
theorem lawmul_ok [H__law_gcd p] [H__law_low p] [H__law_mul p] {k l : Nat} {x y : Rt} (hx : Red k x) (hy : Red l y) (hk : k + l ≤ 9000 := by omega) : callN p (n + 3) fs "_law_mul" [rt x, rt y] st = .ok (rt (mulQt x y)) st := by
  rw [call_fn (H__law_mul.h (p := p)) (by decide) rfl]
  simp [b__law_mul, k__law_mul_1, s__law_mul_1, mul_ok st (pow_up hx.tz (l := 100000) (by omega)) (pow_up hy.tz (l := 100000) (by omega)), mul_ok st (pow_up hx.bz (l := 100000) (by omega)) (pow_up hy.bz (l := 100000) (by omega)),
    low_ok (Int.mul_pos hx.pos hy.pos) (pow_up (mul_lt hx.tz hy.tz) hk) (pow_up (mul_lt hx.bz hy.bz) hk), mulQt]
theorem lawadd_ok [H__law_gcd p] [H__law_low p] [H__law_add p] {k l : Nat} {x y : Rt} (hx : Red k x) (hy : Red l y) (hk : k + l + 1 ≤ 9000 := by omega) : callN p (n + 3) fs "_law_add" [rt x, rt y] st = .ok (rt (addQ x y)) st := by
  rw [call_fn (H__law_add.h (p := p)) (by decide) rfl]
  simp [b__law_add, k__law_add_1, s__law_add_1, mul_ok st (pow_up hx.tz (l := 100000) (by omega)) (pow_up hy.bz (l := 100000) (by omega)), mul_ok st (pow_up hy.tz (l := 100000) (by omega)) (pow_up hx.bz (l := 100000) (by omega)), mul_ok st (pow_up hx.bz (l := 100000) (by omega)) (pow_up hy.bz (l := 100000) (by omega)),
    low_ok (Int.mul_pos hx.pos hy.pos) (pow_up (add_lt (mul_lt hx.tz hy.bz) (show _ < 2 ^ (k + l) by rw [Nat.add_comm]; exact mul_lt hy.tz hx.bz)) hk) (pow_up (mul_lt hx.bz hy.bz) (by omega)), addQ]
theorem is_pair_ok [H__law_gcd p] [H__law_is_int p] [H__law_is_pair p] {k : Nat} {q : Rt} (h : Red k q) (hk : k ≤ 9000 := by omega) : callN p (n + 2) fs "_law_is_pair" [rt q] st = .ok (.bl true) st := by
  have hg : gI q.1 q.2 = 1 := by unfold gI; rw [h.co]; rfl
  have hp := h.pos
  have hty : isTys [.tuple] (rt q) st = some true := rfl
  have hd : (1 : Int) ≤ q.2 := by omega
  rw [call_fn (H__law_is_pair.h (p := p)) (by decide) rfl]
  simp [b__law_is_pair, k__law_is_pair_1, s__law_is_pair_1, s__law_is_pair_3, s__law_is_pair_5, hty, is_int_ok, wholeB, law_gcd (pow_up h.tz hk) (pow_up h.bz hk), hg, hd]
end
/-! ### drawn ratios -/
section
variable {p : Str → Option Fn} {P : Pen} {c : Nat} {r : Store}
theorem ratio_ok [H__law_draw p] [H__law_pick p] [H__law_gcd p] [H__law_low p] [H__law_ratio p] (h : Pn (c + 4) P) : ∃ q P', Red 41 q ∧ Pn c P' ∧ ∀ n fs, callN p (n + 3) fs "_law_ratio" [.loc 0] (penC P :: r) = .ok (rt q) (penC P' :: r) := by
  obtain ⟨d, P1, d0, d1, h1, e1⟩ := draw_ok (p := p) (m := 6) (r := r) h (by decide) (by decide)
  have cf := H__law_ratio.h (p := p)
  by_cases hd : d = 0
  · obtain ⟨t, P2, t0, t1, h2, e2⟩ := draw_ok (p := p) (m := 3) (r := r) h1 (by decide) (by decide)
    refine ⟨(t - 1, 1), P2, Red.one (by simp; omega), h2.mono (by omega), fun n fs => ?_⟩
    rw [call_fn cf (by decide) rfl]
    simp [b__law_ratio, k__law_ratio_1, s__law_ratio_1, e1, s__law_ratio_2, hd, k__law_ratio_2, s__law_ratio_3, e2, rt]
    simp [big]
  · obtain ⟨s, P2, s0, h2, e2⟩ := pick_ok (p := p) (r := r) (xs := [.int 4, .int 9, .int 9, .int 1000000000000]) h1 (by simp) (by simp) (by simp)
    obtain ⟨z, rfl, z0, z1⟩ : ∃ z : Int, s = .int z ∧ 4 ≤ z ∧ z ≤ 1000000000000 := by
      simp at s0
      rcases s0 with rfl | rfl | rfl <;> exact ⟨_, rfl, by decide, by decide⟩
    obtain ⟨t, P3, t0, t1, h3, e3⟩ := draw_ok (p := p) (m := 2 * z - 1) (r := r) h2 (by omega) (by omega)
    have hm : ∀ st, binD .Mult (.int 2) (.int z) st = .ok (.int (2 * z)) st := fun st => mul_small _ (by decide) (by omega)
    by_cases hd1 : d = 1
    · refine ⟨lowQ (t - (z - 1)) 1, P3, low_red (by decide) (by omega) (by decide), h3.mono (by omega), fun n fs => ?_⟩
      rw [call_fn cf (by decide) rfl]
      simp [b__law_ratio, k__law_ratio_1, s__law_ratio_1, e1, s__law_ratio_2, hd1, s__law_ratio_4, pow12, big, e2, s__law_ratio_5, hm, e3, s__law_ratio_6, low_ok (t := t - (z - 1)) (b := 1) (by decide) (pow_up (k := 64) (by omega) (by decide)) (pow_up (k := 64) (by decide) (by decide))]
    · obtain ⟨u, P4, u0, u1, h4, e4⟩ := draw_ok (p := p) (m := z - 1) (r := r) h3 (by omega) (by omega)
      refine ⟨lowQ (t - (z - 1)) (1 + u), P4, low_red (by omega) (by omega) (by omega), h4, fun n fs => ?_⟩
      rw [call_fn cf (by decide) rfl]
      simp [b__law_ratio, k__law_ratio_1, s__law_ratio_1, e1, s__law_ratio_2, hd, s__law_ratio_4, pow12, big, e2, s__law_ratio_5, hm, e3, s__law_ratio_6, hd1, e4, low_ok (t := t - (z - 1)) (b := 1 + u) (by omega) (pow_up (k := 64) (by omega) (by decide)) (pow_up (k := 64) (by omega) (by decide))]
end
end MM.Sh
end

section
set_option Elab.async false
set_option linter.all false
set_option maxRecDepth 100000
set_option maxHeartbeats 4000000
set_option exponentiation.threshold 200000
/-! ShLoose: the forms in which a ratio may be passed. -/
namespace MM.Sh
open PySem MM MM.F
section
variable {p : Str → Option Fn} {n : Nat} {fs : List Fr} {st : Store} {P : Pen} {c : Nat} {r : Store}
@[simp] theorem pair_rt (q : Rt) : pairX (rt q) = some q := rfl
theorem mul9 {i j : Int} {m m' : Nat} (h : i.natAbs < 2 ^ m) (h2 : j.natAbs < 2 ^ m') (hm : m ≤ 100000) (hm' : m' ≤ 100000) : binD .Mult (.int i) (.int j) st = .ok (.int (i * j)) st := mul_ok st (pow_up h hm) (pow_up h2 hm')
theorem ratio_rt {k : Nat} {q : Rt} (h : Red k q) : ratioB (rt q) = true := by
  have := h.pos
  simp [ratioB]
  omega
theorem told_rt {k : Nat} {q : Rt} (h : Red k q) : toldQ (rt q) = q := by
  have : toldQ (rt q) = lowQ q.1 q.2 := rfl
  rw [this, h.low]
theorem fit_rt {k : Nat} {q : Rt} (h : Red k q) (hk : k ≤ 9000) : Fit (rt q) := fun q' e => by
  simp at e
  subst e
  exact pow_up h.bz hk
/-- what a loose form tells -/
structure RatFor (d : D) (q : Rt) : Prop where
  b : ratioB d = true
  fit : Fit d
  told : toldQ d = q
  okd : ∀ st, Okd st d
  lim : d.lim = 0
theorem loose_ok [H__law_draw p] [H__law_loose p] {k : Nat} {q : Rt} (h : Pn (c + 2) P) (hq : Red k q) (hk : k + 3 ≤ 9000) : ∃ d P', RatFor d q ∧ Pn c P' ∧ ∀ n fs, callN p (n + 2) fs "_law_loose" [.loc 0, rt q] (penC P :: r) = .ok d (penC P' :: r) := by
  obtain ⟨y, P1, y0, y1, h1, e1⟩ := draw_ok (p := p) (m := 5) (r := r) h (by decide) (by decide)
  have cf := H__law_loose.h (p := p)
  have self : RatFor (rt q) q := ⟨ratio_rt hq, fit_rt hq (by omega), told_rt hq, fun _ => trivial, by simp⟩
  by_cases ht : y = 0 ∧ q.2 = 1
  · refine ⟨.int q.1, P1, ⟨rfl, fun _ e => by simp [pairX, seqX] at e, ?_, fun _ => trivial, by simp⟩, h1.mono (by omega), fun n fs => ?_⟩
    · simp [toldQ]; rw [← ht.2]
    · rw [call_fn cf (by decide) rfl]
      simp [b__law_loose, k__law_loose_1, s__law_loose_1, e1, s__law_loose_2, ht, k__law_loose_2, s__law_loose_3]
  · have s2 : ∀ n fs, evS (callN p (n + 1)) fs none s__law_loose_2 [some (.loc 0), some (rt q), some (.int y), none] (penC P1 :: r) = .nxt [some (.loc 0), some (rt q), some (.int y), none] (penC P1 :: r) := fun n fs => by
      by_cases h0 : y = 0
      · have h2 : ¬ q.2 = 1 := fun z => ht ⟨h0, z⟩
        simp [s__law_loose_2, h0, h2]
      · simp [s__law_loose_2, h0]
    by_cases hy : y = 1
    · obtain ⟨u, P2, u0, u1, h2, e2⟩ := draw_ok (p := p) (m := 5) (r := r) h1 (by decide) (by decide)
      have b0 : (2 + u).natAbs < 2 ^ 3 := by omega
      have hp := hq.pos
      have pp : pairX (.tup [.int (q.1 * (2 + u)), .int (q.2 * (2 + u))]) = some (q.1 * (2 + u), q.2 * (2 + u)) := rfl
      refine ⟨.tup [.int (q.1 * (2 + u)), .int (q.2 * (2 + u))], P2, ⟨?_, fun q' e => ?_, ?_, fun _ => trivial, by simp⟩, h2, fun n fs => ?_⟩
      · have : 0 < q.2 * (2 + u) := Int.mul_pos hp (by omega)
        simp [ratioB, pp]
        omega
      · rw [pp] at e
        cases e
        exact pow_up (mul_lt hq.bz b0) hk
      · have : toldQ (.tup [.int (q.1 * (2 + u)), .int (q.2 * (2 + u))]) = lowQ (q.1 * (2 + u)) (q.2 * (2 + u)) := rfl
        rw [this, hq.by (by omega)]
      · have m1 := mul9 (st := penC P2 :: r) hq.tz b0 (by omega) (by omega)
        have m2 := mul9 (st := penC P2 :: r) hq.bz b0 (by omega) (by omega)
        rw [call_fn cf (by decide) rfl]
        simp [b__law_loose, k__law_loose_1, s__law_loose_1, e1, s2, s__law_loose_4, hy, k__law_loose_3, s__law_loose_5, e2, s__law_loose_6, m1, m2, big]
        rw [← hy, s2]
        simp [hy, e2, m1, m2]
    · by_cases hy2 : y = 2
      · have hp := hq.pos
        refine ⟨.fl [.int q.1, .int q.2], P1, ⟨?_, fun q' e => ?_, ?_, fun _ => trivial, by simp⟩, h1.mono (by omega), fun n fs => ?_⟩
        · simp [ratioB, pairX, seqX]
          omega
        · have : some q = some q' := e
          cases this
          exact pow_up hq.bz (by omega)
        · have : toldQ (.fl [.int q.1, .int q.2]) = lowQ q.1 q.2 := rfl
          rw [this, hq.low]
        · rw [call_fn cf (by decide) rfl]
          simp [b__law_loose, k__law_loose_1, s__law_loose_1, e1, s2, s__law_loose_4, hy, s__law_loose_7, hy2, big]
          rw [← hy2, s2]
          simp [hy2]
      · refine ⟨rt q, P1, self, h1.mono (by omega), fun n fs => ?_⟩
        rw [call_fn cf (by decide) rfl]
        simp [b__law_loose, k__law_loose_1, s__law_loose_1, e1, s2, s__law_loose_4, hy, s__law_loose_7, hy2]
end
end MM.Sh
end

section
set_option Elab.async false
set_option linter.all false
set_option maxRecDepth 100000
set_option maxHeartbeats 4000000
set_option exponentiation.threshold 200000
/-! ShSum: sums of ratios: the program's, the laws'; what is refused. -/
namespace MM.Sh
open PySem MM MM.F
/-! ### pure -/
def subQ (x y : Rt) : Rt := lowQ (x.1 * y.2 - y.1 * x.2) (x.2 * y.2)
def divQ (x y : Rt) : Rt := if 0 < y.1 then lowQ (x.1 * y.2) (x.2 * y.1) else lowQ (-(x.1 * y.2)) (-(x.2 * y.1))
theorem sub_lt {i j : Int} {k : Nat} (h : i.natAbs < 2 ^ k) (h2 : j.natAbs < 2 ^ k) : (i - j).natAbs < 2 ^ (k + 1) := by
  rw [Nat.pow_succ]; omega
theorem low_one (t : Int) : lowQ t 1 = (t, 1) := by
  have hg : gI t 1 = 1 := by simp [gI]
  unfold lowQ
  rw [hg]
  simp
theorem low_zero {b : Int} (hb : 0 < b) : lowQ 0 b = (0, 1) := by
  have hg : gI 0 b = b := by simp [gI]; omega
  unfold lowQ
  rw [hg, Int.zero_ediv, Int.ediv_self (by omega)]
theorem subQ_red {k l : Nat} {x y : Rt} (hx : Red k x) (hy : Red l y) : Red (k + l + 1) (subQ x y) := low_red (Int.mul_pos hx.pos hy.pos) (sub_lt (mul_lt hx.tz hy.bz) (by rw [Nat.add_comm]; exact mul_lt hy.tz hx.bz)) (pow_up (mul_lt hx.bz hy.bz) (by omega))
theorem divQ_red {k l : Nat} {x y : Rt} (hx : Red k x) (hy : Red l y) (h0 : y.1 ≠ 0) : Red (k + l) (divQ x y) := by
  unfold divQ
  split
  · rename_i h
    exact low_red (Int.mul_pos hx.pos h) (mul_lt hx.tz hy.bz) (mul_lt hx.bz hy.tz)
  · rename_i h
    have hp : 0 < x.2 * -y.1 := Int.mul_pos hx.pos (by omega)
    rw [Int.mul_neg] at hp
    refine low_red hp ?_ ?_
    · rw [Int.natAbs_neg]; exact mul_lt hx.tz hy.bz
    · rw [Int.natAbs_neg]; exact mul_lt hx.bz hy.tz
/-! ### told ratios -/
section
variable {p : Str → Option Fn} {n : Nat} {fs : List Fr} {st : Store} {k l : Nat} {x y : Rt} {a b d : D}
theorem radd_ok [H_lowest p] [H_radd p] (hx : Red k x) (hy : Red l y) (hk : k + l + 1 ≤ 8000 := by omega) : callN p (n + 2) fs "radd" [rt x, rt y] st = .ok (rt (addQ x y)) st := by
  rw [call_fn (H_radd.h (p := p)) (by decide) rfl]
  by_cases h : x.2 = 1 ∧ y.2 = 1
  · have e : addQ x y = (x.1 + y.1, 1) := by unfold addQ; rw [h.1, h.2, Int.mul_one, Int.mul_one, Int.mul_one, low_one]
    have s1 : evS (callN p (n + 1)) fs none s_radd_1 [some (rt x), some (rt y)] st = .ret (rt (x.1 + y.1, 1)) st := by
      simp [s_radd_1, k_radd_2, s_radd_2, h.1, h.2, big]
      rfl
    simp [b_radd, k_radd_1, s1, e]
  · have m1 := mul9 (st := st) hx.tz hy.bz (by omega) (by omega)
    have m2 := mul9 (st := st) hy.tz hx.bz (by omega) (by omega)
    have m3 := mul9 (st := st) hx.bz hy.bz (by omega) (by omega)
    have lo : ∀ fs, callN p (n + 1) fs "lowest" [.int (x.1 * y.2 + y.1 * x.2), .int (x.2 * y.2)] st = .ok (rt (addQ x y)) st := fun fs => lowest_ok (Int.mul_pos hx.pos hy.pos) (pow_up (mul_lt hx.bz hy.bz) (by omega))
    have s1 : evS (callN p (n + 1)) fs none s_radd_1 [some (rt x), some (rt y)] st = .nxt [some (rt x), some (rt y)] st := by
      by_cases h1 : x.2 = 1
      · have h2 : ¬ y.2 = 1 := fun z => h ⟨h1, z⟩
        simp [s_radd_1, h1, h2]
      · simp [s_radd_1, h1]
    simp [b_radd, k_radd_1, s1, s_radd_3, m1, m2, m3, lo]
theorem rsub_ok [H_lowest p] [H_rsub p] (hx : Red k x) (hy : Red l y) (hk : k + l + 1 ≤ 8000 := by omega) : callN p (n + 2) fs "rsub" [rt x, rt y] st = .ok (rt (subQ x y)) st := by
  have m1 := mul9 (st := st) hx.tz hy.bz (by omega) (by omega)
  have m2 := mul9 (st := st) hy.tz hx.bz (by omega) (by omega)
  have m3 := mul9 (st := st) hx.bz hy.bz (by omega) (by omega)
  have lo : ∀ fs, callN p (n + 1) fs "lowest" [.int (x.1 * y.2 - y.1 * x.2), .int (x.2 * y.2)] st = .ok (rt (subQ x y)) st := fun fs => lowest_ok (Int.mul_pos hx.pos hy.pos) (pow_up (mul_lt hx.bz hy.bz) (by omega))
  rw [call_fn (H_rsub.h (p := p)) (by decide) rfl]
  simp [b_rsub, k_rsub_1, s_rsub_1, m1, m2, m3, lo]
theorem rmul_ok [H_lowest p] [H_rmul p] (hx : Red k x) (hy : Red l y) (hk : k + l + 1 ≤ 8000 := by omega) : callN p (n + 2) fs "rmul" [rt x, rt y] st = .ok (rt (mulQt x y)) st := by
  rw [call_fn (H_rmul.h (p := p)) (by decide) rfl]
  by_cases h : x.1 = 0 ∨ y.1 = 0
  · have e : mulQt x y = (0, 1) := by
      unfold mulQt
      rw [show x.1 * y.1 = 0 by rcases h with h | h <;> rw [h] <;> simp]
      exact low_zero (Int.mul_pos hx.pos hy.pos)
    have s1 : evS (callN p (n + 1)) fs none s_rmul_1 [some (rt x), some (rt y)] st = .ret (rt (0, 1)) st := by
      rcases h with h | h
      · simp [s_rmul_1, k_rmul_2, s_rmul_2, h, big]
        rfl
      · by_cases h1 : x.1 = 0 <;> simp [s_rmul_1, k_rmul_2, s_rmul_2, h, h1, big] <;> rfl
    simp [b_rmul, k_rmul_1, s1, e]
  · have h1 : ¬ x.1 = 0 := fun z => h (.inl z)
    have h2 : ¬ y.1 = 0 := fun z => h (.inr z)
    have m1 := mul9 (st := st) hx.tz hy.tz (by omega) (by omega)
    have m3 := mul9 (st := st) hx.bz hy.bz (by omega) (by omega)
    have lo : ∀ fs, callN p (n + 1) fs "lowest" [.int (x.1 * y.1), .int (x.2 * y.2)] st = .ok (rt (mulQt x y)) st := fun fs => lowest_ok (Int.mul_pos hx.pos hy.pos) (pow_up (mul_lt hx.bz hy.bz) (by omega))
    simp [b_rmul, k_rmul_1, s_rmul_1, h1, h2, s_rmul_3, m1, m3, lo]
theorem rdiv_ok [H_lowest p] [H_rdiv p] (hx : Red k x) (hy : Red l y) (h0 : y.1 ≠ 0) (hk : k + l + 1 ≤ 8000 := by omega) : callN p (n + 2) fs "rdiv" [rt x, rt y] st = .ok (rt (divQ x y)) st := by
  have m1 := mul9 (st := st) hx.tz hy.bz (by omega) (by omega)
  have m2 := mul9 (st := st) hx.bz hy.tz (by omega) (by omega)
  have hp := hx.pos
  rw [call_fn (H_rdiv.h (p := p)) (by decide) rfl]
  by_cases h : 0 < y.1
  · have hq := Int.mul_pos hp h
    have hn : ¬ x.2 * y.1 < 0 := by omega
    have lo : ∀ fs, callN p (n + 1) fs "lowest" [.int (x.1 * y.2), .int (x.2 * y.1)] st = .ok (rt (lowQ (x.1 * y.2) (x.2 * y.1))) st := fun fs => lowest_ok hq (pow_up (mul_lt hx.bz hy.tz) (by omega))
    simp [b_rdiv, k_rdiv_1, s_rdiv_1, s_rdiv_2, s_rdiv_3, s_rdiv_5, m1, m2, hn, lo, divQ, h]
  · have hq : 0 < x.2 * -y.1 := Int.mul_pos hp (by omega)
    rw [Int.mul_neg] at hq
    have hn : x.2 * y.1 < 0 := by omega
    have lo : ∀ fs, callN p (n + 1) fs "lowest" [.int (-(x.1 * y.2)), .int (-(x.2 * y.1))] st = .ok (rt (lowQ (-(x.1 * y.2)) (-(x.2 * y.1)))) st := fun fs => lowest_ok hq (by rw [Int.natAbs_neg]; exact pow_up (mul_lt hx.bz hy.tz) (by omega))
    simp [b_rdiv, k_rdiv_1, s_rdiv_1, s_rdiv_2, s_rdiv_3, k_rdiv_2, s_rdiv_4, m1, m2, hn, lo, divQ, h, negD]
/-! ### the laws' sums -/
theorem lawsub_ok [H__law_gcd p] [H__law_low p] [H__law_sub p] (hx : Red k x) (hy : Red l y) (hk : k + l + 1 ≤ 8000 := by omega) : callN p (n + 3) fs "_law_sub" [rt x, rt y] st = .ok (rt (subQ x y)) st := by
  have m1 := mul9 (st := st) hx.tz hy.bz (by omega) (by omega)
  have m2 := mul9 (st := st) hy.tz hx.bz (by omega) (by omega)
  have m3 := mul9 (st := st) hx.bz hy.bz (by omega) (by omega)
  have lo : ∀ fs, callN p (n + 2) fs "_law_low" [.int (x.1 * y.2 - y.1 * x.2), .int (x.2 * y.2)] st = .ok (rt (subQ x y)) st := fun fs => low_ok (Int.mul_pos hx.pos hy.pos) (pow_up (sub_lt (mul_lt hx.tz hy.bz) (show _ < 2 ^ (k + l) by rw [Nat.add_comm]; exact mul_lt hy.tz hx.bz)) (by omega)) (pow_up (mul_lt hx.bz hy.bz) (by omega))
  rw [call_fn (H__law_sub.h (p := p)) (by decide) rfl]
  simp [b__law_sub, k__law_sub_1, s__law_sub_1, m1, m2, m3, lo]
theorem lawdiv_ok [H__law_gcd p] [H__law_low p] [H__law_div p] (hx : Red k x) (hy : Red l y) (h0 : y.1 ≠ 0) (hk : k + l + 1 ≤ 8000 := by omega) : callN p (n + 3) fs "_law_div" [rt x, rt y] st = .ok (rt (divQ x y)) st := by
  have m1 := mul9 (st := st) hx.tz hy.bz (by omega) (by omega)
  have m2 := mul9 (st := st) hx.bz hy.tz (by omega) (by omega)
  have hp := hx.pos
  rw [call_fn (H__law_div.h (p := p)) (by decide) rfl]
  by_cases h : 0 < y.1
  · have hq := Int.mul_pos hp h
    have o1 := mul9 (st := st) (i := 1) (m := 1) (by decide) hx.tz (by omega) (by omega)
    have o2 := mul9 (st := st) (i := 1) (m := 1) (by decide) hx.bz (by omega) (by omega)
    rw [Int.one_mul] at o1 o2
    have lo : ∀ fs, callN p (n + 2) fs "_law_low" [.int (x.1 * y.2), .int (x.2 * y.1)] st = .ok (rt (lowQ (x.1 * y.2) (x.2 * y.1))) st := fun fs => low_ok hq (pow_up (mul_lt hx.tz hy.bz) (by omega)) (pow_up (mul_lt hx.bz hy.tz) (by omega))
    simp [b__law_div, k__law_div_1, s__law_div_1, s__law_div_2, h, o1, o2, m1, m2, lo, divQ]
  · have hq : 0 < x.2 * -y.1 := Int.mul_pos hp (by omega)
    rw [Int.mul_neg] at hq
    have o1 := mul9 (st := st) (i := -1) (m := 1) (by decide) hx.tz (by omega) (by omega)
    have o2 := mul9 (st := st) (i := -1) (m := 1) (by decide) hx.bz (by omega) (by omega)
    have n1 : binD .Mult (.int (-x.1)) (.int y.2) st = .ok (.int (-(x.1 * y.2))) st := by
      rw [← Int.neg_mul]
      exact mul9 (by rw [Int.natAbs_neg]; exact hx.tz) hy.bz (by omega) (by omega)
    have n2 : binD .Mult (.int (-x.2)) (.int y.1) st = .ok (.int (-(x.2 * y.1))) st := by
      rw [← Int.neg_mul]
      exact mul9 (by rw [Int.natAbs_neg]; exact hx.bz) hy.tz (by omega) (by omega)
    rw [Int.neg_one_mul] at o1 o2
    have lo : ∀ fs, callN p (n + 2) fs "_law_low" [.int (-(x.1 * y.2)), .int (-(x.2 * y.1))] st = .ok (rt (lowQ (-(x.1 * y.2)) (-(x.2 * y.1)))) st := fun fs => low_ok hq (by rw [Int.natAbs_neg]; exact pow_up (mul_lt hx.tz hy.bz) (by omega)) (by rw [Int.natAbs_neg]; exact pow_up (mul_lt hx.bz hy.tz) (by omega))
    simp [b__law_div, k__law_div_1, s__law_div_1, s__law_div_2, h, negD, o1, o2, n1, n2, lo, divQ]
/-- the law's own look at a ratio -/
theorem law_is_ratio_ok [H__law_is_int p] [H__law_is_ratio p] (h : Okd st d) : callN p (n + 2) fs "_law_is_ratio" [d] st = .ok (.bl (ratioB d)) st := by
  rw [call_fn (H__law_is_ratio.h (p := p)) (by decide) rfl]
  cases hs : seqX d with
  | none =>
    have hp : pairX d = none := by unfold pairX; rw [hs]
    simp [b__law_is_ratio, k__law_is_ratio_1, s__law_is_ratio_1, s__law_is_ratio_5, sq_ty h, hs, is_int_ok, ratioB, hp]
  | some xs =>
    have hw : wholeB d = false := by cases d <;> simp [seqX] at hs <;> rfl
    by_cases h2 : xs.length = 2
    · match xs, h2, hs with
      | [a, b], _, hs =>
        have i0 : ∀ st, idxD d (.int 0) st = some a := fun st => by rw [sq_idx hs]; rfl
        have i1 : ∀ st, idxD d (.int 1) st = some b := fun st => by rw [sq_idx hs]; rfl
        by_cases ha : wholeB a = true
        · by_cases hb : wholeB b = true
          · cases a <;> simp [wholeB] at ha
            cases b <;> simp [wholeB] at hb
            simp [b__law_is_ratio, k__law_is_ratio_1, s__law_is_ratio_1, k__law_is_ratio_2, s__law_is_ratio_2, s__law_is_ratio_4, sq_ty h, hs, is_int_ok, ratioB, pairX, sq_len hs, i0, i1, wholeB]
            intro z
            cases d <;> simp [seqX] at hs z
          · have hb' : wholeB b = false := by simpa using hb
            have hp : pairX d = none := by
              unfold pairX
              rw [hs]
              cases a <;> cases b <;> first | rfl | (simp [wholeB] at hb')
            simp [b__law_is_ratio, k__law_is_ratio_1, s__law_is_ratio_1, k__law_is_ratio_2, s__law_is_ratio_2, k__law_is_ratio_3, s__law_is_ratio_3, sq_ty h, hs, is_int_ok, ratioB, hw, hp, sq_len hs, i0, i1, ha, hb']
        · have ha' : wholeB a = false := by simpa using ha
          have hp : pairX d = none := by
            unfold pairX
            rw [hs]
            cases a <;> cases b <;> first | rfl | (simp [wholeB] at ha')
          simp [b__law_is_ratio, k__law_is_ratio_1, s__law_is_ratio_1, k__law_is_ratio_2, s__law_is_ratio_2, k__law_is_ratio_3, s__law_is_ratio_3, sq_ty h, hs, is_int_ok, ratioB, hw, hp, sq_len hs, i0, i1, ha']
    · have hp : pairX d = none := by
        unfold pairX
        rw [hs]
        match xs, h2 with
        | [], _ => rfl
        | [a], _ => cases a <;> rfl
        | [a, b], h2 => exact absurd rfl h2
        | a :: b :: c :: r, _ => cases a <;> cases b <;> rfl
      have h2' : ¬ (xs.length : Int) = 2 := by omega
      simp [b__law_is_ratio, k__law_is_ratio_1, s__law_is_ratio_1, k__law_is_ratio_2, s__law_is_ratio_2, k__law_is_ratio_3, s__law_is_ratio_3, sq_ty h, hs, ratioB, hw, hp, sq_len hs, h2']
/-! ### passed in any form -/
def badRatio (d : D) : Ex := ⟨"BadRatio", [("value", d)]⟩
theorem told_no [H_is_whole p] [H_is_ratio p] [H_told p] (h : Okd st d) (hb : ratioB d = false) : callN p (n + 3) fs "told" [d] st = .exc (badRatio d) st := by
  rw [call_fn (H_told.h (p := p)) (by decide) rfl]
  simp [b_told, k_told_1, s_told_1, k_told_2, s_told_2, ratio_is h, hb, exLim, badRatio]
theorem told_for [H_is_whole p] [H_is_ratio p] [H_lowest p] [H_told p] (F : RatFor d x) : callN p (n + 3) fs "told" [d] st = .ok (rt x) st := by rw [← F.told]; exact told_ok F.b F.fit
end
section
variable {p : Str → Option Fn} {n : Nat} {fs : List Fr} {st : Store} {k l : Nat} {x y : Rt} {a b d : D} [H_is_whole p] [H_is_ratio p] [H_lowest p] [H_told p]
theorem plus_ok [H_radd p] [H_plus p] (A : RatFor a x) (B : RatFor b y) (hx : Red k x) (hy : Red l y) (hk : k + l + 1 ≤ 8000 := by omega) : callN p (n + 4) fs "plus" [a, b] st = .ok (rt (addQ x y)) st := by
  have q : ∀ fs, callN p (n + 3) fs "radd" [rt x, rt y] st = .ok (rt (addQ x y)) st := fun fs => radd_ok (n := n + 1) hx hy hk
  rw [call_fn (H_plus.h (p := p)) (by decide) rfl]
  simp [b_plus, k_plus_1, s_plus_1, s_plus_2, told_for A, told_for B, q]
theorem minus_ok [H_rsub p] [H_minus p] (A : RatFor a x) (B : RatFor b y) (hx : Red k x) (hy : Red l y) (hk : k + l + 1 ≤ 8000 := by omega) : callN p (n + 4) fs "minus" [a, b] st = .ok (rt (subQ x y)) st := by
  have q : ∀ fs, callN p (n + 3) fs "rsub" [rt x, rt y] st = .ok (rt (subQ x y)) st := fun fs => rsub_ok (n := n + 1) hx hy hk
  rw [call_fn (H_minus.h (p := p)) (by decide) rfl]
  simp [b_minus, k_minus_1, s_minus_1, s_minus_2, told_for A, told_for B, q]
theorem times_ok [H_rmul p] [H_times p] (A : RatFor a x) (B : RatFor b y) (hx : Red k x) (hy : Red l y) (hk : k + l + 1 ≤ 8000 := by omega) : callN p (n + 4) fs "times" [a, b] st = .ok (rt (mulQt x y)) st := by
  have q : ∀ fs, callN p (n + 3) fs "rmul" [rt x, rt y] st = .ok (rt (mulQt x y)) st := fun fs => rmul_ok (n := n + 1) hx hy hk
  rw [call_fn (H_times.h (p := p)) (by decide) rfl]
  simp [b_times, k_times_1, s_times_1, s_times_2, told_for A, told_for B, q]
theorem share_ok [H_rdiv p] [H_share_of p] (A : RatFor a x) (B : RatFor b y) (hx : Red k x) (hy : Red l y) (h0 : y.1 ≠ 0) (hk : k + l + 1 ≤ 8000 := by omega) : callN p (n + 4) fs "share_of" [a, b] st = .ok (rt (divQ x y)) st := by
  have q : ∀ fs, callN p (n + 3) fs "rdiv" [rt x, rt y] st = .ok (rt (divQ x y)) st := fun fs => rdiv_ok (n := n + 1) hx hy h0 hk
  rw [call_fn (H_share_of.h (p := p)) (by decide) rfl]
  simp [b_share_of, k_share_of_1, s_share_of_1, s_share_of_2, s_share_of_3, s_share_of_5, told_for A, told_for B, h0, q]
def badNumber (what : Str) (d : D) : Ex := ⟨"BadNumber", [("number", d), ("what", .str what)]⟩
theorem share_zero [H_share_of p] (A : RatFor a x) (B : RatFor b y) (h0 : y.1 = 0) : callN p (n + 4) fs "share_of" [a, b] st = .exc (badNumber "quotient" (.int 0)) st := by
  rw [call_fn (H_share_of.h (p := p)) (by decide) rfl]
  simp [b_share_of, k_share_of_1, s_share_of_1, s_share_of_2, s_share_of_3, k_share_of_2, s_share_of_4, told_for A, told_for B, h0, exLim, badNumber]
theorem lessr_ok [H_rless p] [H_less p] (A : RatFor a x) (B : RatFor b y) (hx : Red k x) (hy : Red l y) (hk : k ≤ 8000 := by omega) (hl : l ≤ 8000 := by omega) : callN p (n + 4) fs "less" [a, b] st = .ok (.bl (lessQ x y)) st := by
  have q : ∀ fs, callN p (n + 3) fs "rless" [rt x, rt y] st = .ok (.bl (lessQ x y)) st := fun fs => rless_ok (n := n + 2) hx hy
  rw [call_fn (H_less.h (p := p)) (by decide) rfl]
  simp [b_less, k_less_1, s_less_1, s_less_2, told_for A, told_for B, q]
theorem same_ok [H_same p] (A : RatFor a x) (B : RatFor b y) : callN p (n + 4) fs "same" [a, b] st = .ok (.bl (decide (x = y))) st := by
  rw [call_fn (H_same.h (p := p)) (by decide) rfl]
  simp [b_same, k_same_1, s_same_1, s_same_2, told_for A, told_for B]
/-! refused -/
theorem plus_no1 [H_plus p] (h : Okd st d) (hb : ratioB d = false) : callN p (n + 4) fs "plus" [d, b] st = .exc (badRatio d) st := by
  rw [call_fn (H_plus.h (p := p)) (by decide) rfl]
  simp [b_plus, k_plus_1, s_plus_1, told_no h hb]
theorem minus_no1 [H_minus p] (h : Okd st d) (hb : ratioB d = false) : callN p (n + 4) fs "minus" [d, b] st = .exc (badRatio d) st := by
  rw [call_fn (H_minus.h (p := p)) (by decide) rfl]
  simp [b_minus, k_minus_1, s_minus_1, told_no h hb]
theorem times_no2 [H_times p] (h : Okd st d) (hb : ratioB d = false) (A : RatFor a x) : callN p (n + 4) fs "times" [a, d] st = .exc (badRatio d) st := by
  rw [call_fn (H_times.h (p := p)) (by decide) rfl]
  simp [b_times, k_times_1, s_times_1, s_times_2, told_for A, told_no h hb]
theorem share_no1 [H_share_of p] (h : Okd st d) (hb : ratioB d = false) : callN p (n + 4) fs "share_of" [d, b] st = .exc (badRatio d) st := by
  rw [call_fn (H_share_of.h (p := p)) (by decide) rfl]
  simp [b_share_of, k_share_of_1, s_share_of_1, told_no h hb]
theorem share_no2 [H_share_of p] (h : Okd st d) (hb : ratioB d = false) (A : RatFor a x) : callN p (n + 4) fs "share_of" [a, d] st = .exc (badRatio d) st := by
  rw [call_fn (H_share_of.h (p := p)) (by decide) rfl]
  simp [b_share_of, k_share_of_1, s_share_of_1, s_share_of_2, told_for A, told_no h hb]
theorem less_no1 [H_less p] (h : Okd st d) (hb : ratioB d = false) : callN p (n + 4) fs "less" [d, b] st = .exc (badRatio d) st := by
  rw [call_fn (H_less.h (p := p)) (by decide) rfl]
  simp [b_less, k_less_1, s_less_1, told_no h hb]
theorem less_no2 [H_less p] (h : Okd st d) (hb : ratioB d = false) (A : RatFor a x) : callN p (n + 4) fs "less" [a, d] st = .exc (badRatio d) st := by
  rw [call_fn (H_less.h (p := p)) (by decide) rfl]
  simp [b_less, k_less_1, s_less_1, s_less_2, told_for A, told_no h hb]
theorem same_no1 [H_same p] (h : Okd st d) (hb : ratioB d = false) : callN p (n + 4) fs "same" [d, b] st = .exc (badRatio d) st := by
  rw [call_fn (H_same.h (p := p)) (by decide) rfl]
  simp [b_same, k_same_1, s_same_1, told_no h hb]
theorem same_no2 [H_same p] (h : Okd st d) (hb : ratioB d = false) (A : RatFor a x) : callN p (n + 4) fs "same" [a, d] st = .exc (badRatio d) st := by
  rw [call_fn (H_same.h (p := p)) (by decide) rfl]
  simp [b_same, k_same_1, s_same_1, s_same_2, told_for A, told_no h hb]
end
end MM.Sh
end

section
set_option Elab.async false
set_option linter.all false
set_option maxRecDepth 100000
set_option maxHeartbeats 4000000
set_option exponentiation.threshold 200000
/-! ShRepr: repr of data of known size. -/
namespace MM.Sh
open PySem MM
/-- no list in it, or no dict -/
def kin (b : Bool) (x : PyData) : Prop := if b = true then noL x = true else x.hasDict = false
/-- shown in at most n signs, no list in it (b) or no dict, at most k deep -/
structure Rp (b : Bool) (n k : Nat) (x : PyData) : Prop where
  sh : x.showable = true
  len : x.shown.length ≤ n
  nd : kin b x
  dp : x.depth ≤ k
  so : PyData.strOk x.shown = true
theorem Rp.mono {b : Bool} {n k n' k' : Nat} {x : PyData} (h : Rp b n k x) (hn : n ≤ n') (hk : k ≤ k') : Rp b n' k' x := ⟨h.sh, Nat.le_trans h.len hn, h.nd, Nat.le_trans h.dp hk, h.so⟩
theorem so_app {x y : Str} (h : PyData.strOk x = true) (h2 : PyData.strOk y = true) : PyData.strOk (x ++ y) = true := by
  unfold PyData.strOk at *
  rw [Array.all_eq_true_iff_forall_mem] at *
  intro c hc
  have e : c ∈ (x ++ y).cps.toList := Array.mem_toList_iff.mpr hc
  rw [show (x ++ y).cps.toList = TL.tl (x ++ y) from rfl, TL.tl_append] at e
  rcases List.mem_append.mp e with m | m
  · exact h c (Array.mem_toList_iff.mp m)
  · exact h2 c (Array.mem_toList_iff.mp m)
def numT (k : Nat) : Str := Str.ofString (toString (k : Int))
theorem numT_len {k m : Nat} (hm : 0 < m) (h : k < 10 ^ m) : (numT k).length ≤ m := by
  have := TL.numL_len hm h
  rw [← TL.tl_num k] at this
  have e : (numT k).length = (TL.tl (Str.ofString (toString (k : Int)))).length := (Array.length_toList (xs := (numT k).cps)).symm
  omega
theorem ofS_app (x y : String) : Str.ofString (x ++ y) = Str.ofString x ++ Str.ofString y := by
  apply TL.ext_tl
  rw [TL.tl_append]
  simp [TL.tl, Str.ofString_eq_toList]
theorem int_len {i : Int} {m : Nat} (hm : 0 < m) (h : i.natAbs < 10 ^ m) : (Str.ofString (toString i)).length ≤ m + 1 := by
  by_cases h0 : i < 0
  · have e : Str.ofString (toString i) = ("-" : Str) ++ numT i.natAbs := by
      unfold numT
      rw [PyProof.Rows.toString_neg h0, show (i.natAbs : Int) = 0 - i by omega]
      exact ofS_app _ _
    have h1 : (("-" : Str)).length = 1 := by decide +kernel
    have h2 := numT_len hm h
    rw [e, strLen_append]
    omega
  · have e : Str.ofString (toString i) = numT i.natAbs := by
      unfold numT
      rw [show (i.natAbs : Int) = i by omega]
    have h2 := numT_len hm h
    rw [e]
    omega
theorem num_so (k : Nat) : PyData.strOk (numT k) = true := by
  unfold PyData.strOk
  rw [Array.all_eq_true_iff_forall_mem]
  intro c hc
  have e : c ∈ TL.tl (Str.ofString (toString (k : Int))) := Array.mem_toList_iff.mpr hc
  rw [TL.tl_num] at e
  have := TL.numL_digits k c e
  simp at this ⊢
  omega
theorem int_so (i : Int) : PyData.strOk (Str.ofString (toString i)) = true := by
  by_cases h0 : i < 0
  · have e : Str.ofString (toString i) = ("-" : Str) ++ numT i.natAbs := by
      unfold numT
      rw [PyProof.Rows.toString_neg h0, show (i.natAbs : Int) = 0 - i by omega]
      exact ofS_app _ _
    rw [e]
    exact so_app (by decide +kernel) (num_so _)
  · have e : Str.ofString (toString i) = numT i.natAbs := by
      unfold numT
      rw [show (i.natAbs : Int) = i by omega]
    rw [e]
    exact num_so _
theorem kin_int {b : Bool} {i : Int} : kin b (.int i) := by cases b <;> rfl
theorem kin_tup {b : Bool} {xs : List PyData} (h : ∀ x ∈ xs, kin b x) : kin b (.tuple xs) := by
  cases b with
  | true =>
    show noLs xs = true
    induction xs with
    | nil => rfl
    | cons x r ih => simp only [noLs, show noL x = true from h x List.mem_cons_self, ih fun y hy => h y (List.mem_cons_of_mem _ hy), Bool.and_true]
  | false =>
    show PyData.hasDictAll xs = false
    induction xs with
    | nil => rfl
    | cons x r ih => simp only [PyData.hasDictAll, show x.hasDict = false from h x List.mem_cons_self, ih fun y hy => h y (List.mem_cons_of_mem _ hy), Bool.or_false]
theorem rp_int {b : Bool} {i : Int} {m : Nat} (hm : 0 < m) (h : i.natAbs < 2 ^ m) (hz : m ≤ 1900) : Rp b (m + 1) 0 (.int i) := by
  have h10 : i.natAbs < 10 ^ m := Nat.lt_of_lt_of_le h (Nat.pow_le_pow_left (by decide) m)
  refine ⟨?_, int_len hm h10, kin_int, Nat.le_refl _, int_so i⟩
  simp only [PyData.showable, decide_eq_true_eq]
  by_cases h0 : i.natAbs = 0
  · rw [h0]; decide
  · have := (Nat.log2_lt h0).mpr h
    omega
theorem rp_non {b : Bool} : Rp b 4 0 .none := ⟨rfl, by decide +kernel, by cases b <;> rfl, Nat.le_refl _, by decide +kernel⟩
theorem rp_bl {b : Bool} (c : Bool) : Rp b 5 0 (.bool c) := ⟨rfl, by cases c <;> decide +kernel, by cases b <;> rfl, Nat.le_refl _, by cases c <;> decide +kernel⟩
theorem piled_le {n : Nat} : ∀ {xs : List PyData}, (∀ x ∈ xs, x.shown.length ≤ n) → piled (PyData.shownAll xs) ≤ xs.length * (n + 2)
  | [], _ => by simp [PyData.shownAll, piled]
  | x :: r, h => by
    have := piled_le (n := n) (xs := r) fun y hy => h y (List.mem_cons_of_mem _ hy)
    have h1 := h x List.mem_cons_self
    simp only [PyData.shownAll, piled_cons, List.length_cons, Nat.succ_mul]
    omega
theorem sumlen_le {n : Nat} : ∀ {xs : List PyData}, (∀ x ∈ xs, x.shown.length ≤ n) → ((PyData.shownAll xs).map (·.length)).sum + 2 * (PyData.shownAll xs).length ≤ xs.length * (n + 2)
  | [], _ => by simp [PyData.shownAll]
  | x :: r, h => by
    have := sumlen_le (n := n) (xs := r) fun y hy => h y (List.mem_cons_of_mem _ hy)
    have h1 := h x List.mem_cons_self
    simp only [PyData.shownAll, List.map_cons, List.sum_cons, List.length_cons, Nat.succ_mul]
    omega
theorem all_sh : ∀ {xs : List PyData}, (∀ x ∈ xs, x.showable = true) → PyData.showableAll xs = true
  | [], _ => rfl
  | x :: r, h => by simp only [PyData.showableAll, h x List.mem_cons_self, all_sh fun y hy => h y (List.mem_cons_of_mem _ hy), Bool.and_true]
theorem all_dp {k : Nat} : ∀ {xs : List PyData}, (∀ x ∈ xs, x.depth ≤ k) → PyData.depthAll xs ≤ k
  | [], _ => Nat.zero_le _
  | x :: r, h => by
    simp only [PyData.depthAll]
    exact Nat.max_le.mpr ⟨h x List.mem_cons_self, all_dp fun y hy => h y (List.mem_cons_of_mem _ hy)⟩
theorem join_le (ts : List Str) : (Str.join ", " ts).length ≤ piled ts := by
  by_cases h : ts = []
  · subst h; decide +kernel
  · have := join_length_add ts h
    omega
theorem all_so : ∀ {xs : List PyData}, (∀ x ∈ xs, PyData.strOk x.shown = true) → ∀ t ∈ PyData.shownAll xs, PyData.strOk t = true
  | [], _, t, ht => by simp [PyData.shownAll] at ht
  | x :: r, h, t, ht => by
    simp only [PyData.shownAll] at ht
    rcases List.mem_cons.mp ht with m | m
    · subst m; exact h x List.mem_cons_self
    · exact all_so (fun y hy => h y (List.mem_cons_of_mem _ hy)) t m
theorem join_so : ∀ {ts : List Str}, (∀ t ∈ ts, PyData.strOk t = true) → PyData.strOk (Str.join ", " ts) = true
  | [], _ => by decide +kernel
  | [t], h => h t List.mem_cons_self
  | t :: u :: r, h => so_app (so_app (h t List.mem_cons_self) (by decide +kernel)) (join_so fun v hv => h v (List.mem_cons_of_mem _ hv))
theorem from_so : ∀ {ts : List Str} {k : Nat} {acc : Str}, PyData.strOk acc = true → (∀ t ∈ ts, PyData.strOk t = true) → PyData.strOk (textFrom k acc ts) = true
  | [], _, _, h, _ => h
  | t :: r, k, acc, h, ht => by
    unfold textFrom
    exact from_so (so_app (so_app h (by split <;> decide +kernel)) (ht t List.mem_cons_self)) fun v hv => ht v (List.mem_cons_of_mem _ hv)
theorem rp_tup {b : Bool} {n k : Nat} {xs : List PyData} (h : ∀ x ∈ xs, Rp b n k x) : Rp b (xs.length * (n + 2) + 3) (k + 1) (.tuple xs) := by
  have h4 : ∀ b : Bool, ((if b = true then ",)" else ")" : String) : Str).length ≤ 2 ∧ PyData.strOk ((if b = true then ",)" else ")" : String) : Str) = true := fun b => by cases b <;> decide +kernel
  have h5 := h4 ((PyData.shownAll xs).length == 1)
  refine ⟨all_sh fun x hx => (h x hx).sh, ?_, kin_tup fun x hx => (h x hx).nd, Nat.succ_le_succ (all_dp fun x hx => (h x hx).dp), so_app (so_app (by decide +kernel) (join_so (all_so fun x hx => (h x hx).so))) h5.2⟩
  have h1 := piled_le fun x hx => (h x hx).len
  have h2 := join_le (PyData.shownAll xs)
  have h3 : (("(" : Str)).length = 1 := by decide +kernel
  show (tupleText (PyData.shownAll xs)).length ≤ _
  unfold tupleText
  rw [strLen_append, strLen_append]
  omega
theorem rp_lst {n k : Nat} {xs : List PyData} (h : ∀ x ∈ xs, Rp false n k x) : Rp false (xs.length * (n + 2) + 3) (k + 1) (.list xs) := by
  refine ⟨all_sh fun x hx => (h x hx).sh, ?_, (kin_tup (b := false) fun x hx => (h x hx).nd : kin false (.tuple xs)), Nat.succ_le_succ (all_dp fun x hx => (h x hx).dp), so_app (from_so (by decide +kernel) (all_so fun x hx => (h x hx).so)) (by decide +kernel)⟩
  have h1 := sumlen_le fun x hx => (h x hx).len
  have h2 := textFrom_len_le (PyData.shownAll xs) 0 "["
  have h3 : (("[" : Str)).length = 1 := by decide +kernel
  have h4 : (("]" : Str)).length = 1 := by decide +kernel
  show (listText (PyData.shownAll xs)).length ≤ _
  unfold listText
  rw [strLen_append]
  omega
/-! ### of the evaluator's data -/
def RpD (b : Bool) (st : Store) (n k : Nat) (d : D) : Prop := ∃ x, toP st d = some x ∧ Rp b n k x
theorem RpD.mono {b : Bool} {st : Store} {n k n' k' : Nat} {d : D} (h : RpD b st n k d) (hn : n ≤ n') (hk : k ≤ k') : RpD b st n' k' d := let ⟨x, e, r⟩ := h; ⟨x, e, r.mono hn hk⟩
theorem toPs_some {b : Bool} {prev : Nat → Option PyData} {n k : Nat} : ∀ {ds : List D}, (∀ d ∈ ds, ∃ x, toPw prev d = some x ∧ Rp b n k x) → ∃ xs, toPws prev ds = some xs ∧ xs.length = ds.length ∧ ∀ x ∈ xs, Rp b n k x
  | [], _ => ⟨[], rfl, rfl, fun _ h => nomatch h⟩
  | d :: r, h => by
    obtain ⟨x, e, hx⟩ := h d List.mem_cons_self
    obtain ⟨xs, e2, hl, hr⟩ := toPs_some (ds := r) fun y hy => h y (List.mem_cons_of_mem _ hy)
    refine ⟨x :: xs, by simp only [toPws, e, e2], by simp [hl], fun y hy => ?_⟩
    rcases List.mem_cons.mp hy with m | m
    · subst m; exact hx
    · exact hr y m
section
variable {b : Bool} {st : Store} {n k : Nat}
theorem rpd_int {i : Int} {m : Nat} (hm : 0 < m) (h : i.natAbs < 2 ^ m) (hz : m ≤ 1900) : RpD b st (m + 1) 0 (.int i) := ⟨.int i, rfl, rp_int hm h hz⟩
theorem rpd_non : RpD b st 4 0 .non := ⟨.none, rfl, rp_non⟩
theorem rpd_bl (c : Bool) : RpD b st 5 0 (.bl c) := ⟨.bool c, rfl, rp_bl c⟩
theorem rpd_str {x : Str} (h : (reprText x).length ≤ n) (h2 : PyData.strOk (reprText x) = true) : RpD b st n 0 (.str x) := ⟨.str x, rfl, rfl, h, by cases b <;> rfl, Nat.le_refl _, h2⟩
theorem rpd_tup {ds : List D} (h : ∀ d ∈ ds, RpD b st n k d) : RpD b st (ds.length * (n + 2) + 3) (k + 1) (.tup ds) := by
  obtain ⟨xs, e, hl, hr⟩ := toPs_some (prev := pcellN st 30) (ds := ds) h
  refine ⟨.tuple xs, ?_, hl ▸ rp_tup hr⟩
  show (toPws (pcellN st 30) ds).map PyData.tuple = _
  rw [e]
  rfl
theorem rpd_fl {ds : List D} (h : ∀ d ∈ ds, RpD false st n k d) : RpD false st (ds.length * (n + 2) + 3) (k + 1) (.fl ds) := by
  obtain ⟨xs, e, hl, hr⟩ := toPs_some (prev := pcellN st 30) (ds := ds) h
  refine ⟨.list xs, ?_, hl ▸ rp_lst hr⟩
  show (toPws (pcellN st 30) ds).map PyData.list = _
  rw [e]
  rfl
theorem repr_of {d : D} {x : PyData} (h : toP st d = some x) (hx : (x.showable && decide (x.shown.length ≤ big) && decide (x.depth ≤ 64) && (!(x.hasDict) || noL x)) = true) : bltD .brepr [d] st = .ok (.str x.shown) st := by
  simp only [bltD, h]
  rw [if_pos hx]
theorem repr_rp {d : D} (h : RpD b st n k d) (hn : n ≤ big) (hk : k ≤ 64) : ∃ x, bltD .brepr [d] st = .ok (.str x) st ∧ PyData.strOk x = true := by
  obtain ⟨x, e, r⟩ := h
  have h1 : x.shown.length ≤ big := Nat.le_trans r.len hn
  have h2 : x.depth ≤ 64 := Nat.le_trans r.dp hk
  refine ⟨x.shown, repr_of e ?_, r.so⟩
  have h3 := r.nd
  cases b with
  | true =>
    have h3 : noL x = true := h3
    simp [r.sh, h1, h2, h3]
  | false =>
    have h3 : x.hasDict = false := h3
    simp [r.sh, h1, h2, h3]
end
/-! ### a datum is itself -/
mutual
theorem eqv_self : ∀ x : PyData, x.canLay0 = true → PyData.eqv x x = true
  | .none, _ => by simp [PyData.eqv]
  | .bool _, _ => by simp [PyData.eqv]
  | .int _, _ => by simp [PyData.eqv]
  | .str _, _ => by simp [PyData.eqv]
  | .list xs, h => by
    simp only [PyData.eqv]
    exact eqvs_self xs (by simpa [PyData.canLay0] using h)
  | .tuple xs, h => by
    simp only [PyData.eqv]
    exact eqvs_self xs (by simpa [PyData.canLay0] using h)
  | .dict _, h => by simp [PyData.canLay0] at h
theorem eqvs_self : ∀ xs : List PyData, PyData.canLayAll0 xs = true → PyData.eqvAll xs xs = true
  | [], _ => by simp [PyData.eqvAll]
  | x :: r, h => by
    simp only [PyData.canLayAll0, Bool.and_eq_true] at h
    simp only [PyData.eqvAll, eqv_self x h.1, eqvs_self r h.2, Bool.and_true]
end
/-- data that == may be asked of -/
def Pl (st : Store) (k : Nat) (d : D) : Prop := ∃ x, toP st d = some x ∧ x.canLay0 = true ∧ x.depth ≤ k
theorem pls_some {prev : Nat → Option PyData} {k : Nat} : ∀ {ds : List D}, (∀ d ∈ ds, ∃ x, toPw prev d = some x ∧ x.canLay0 = true ∧ x.depth ≤ k) → ∃ xs, toPws prev ds = some xs ∧ PyData.canLayAll0 xs = true ∧ PyData.depthAll xs ≤ k
  | [], _ => ⟨[], rfl, rfl, Nat.zero_le _⟩
  | d :: r, h => by
    obtain ⟨x, e, hx, hk⟩ := h d List.mem_cons_self
    obtain ⟨xs, e2, hl, hr⟩ := pls_some (ds := r) fun y hy => h y (List.mem_cons_of_mem _ hy)
    refine ⟨x :: xs, by simp only [toPws, e, e2], by simp only [PyData.canLayAll0, hx, hl, Bool.and_true], ?_⟩
    simp only [PyData.depthAll]
    exact Nat.max_le.mpr ⟨hk, hr⟩
section
variable {st : Store} {k : Nat}
theorem pl_int (i : Int) : Pl st 0 (.int i) := ⟨.int i, rfl, by simp [PyData.canLay0], by simp [PyData.depth]⟩
theorem pl_bl (i : Bool) : Pl st 0 (.bl i) := ⟨.bool i, rfl, by simp [PyData.canLay0], by simp [PyData.depth]⟩
theorem pl_non : Pl st 0 .non := ⟨.none, rfl, by simp [PyData.canLay0], by simp [PyData.depth]⟩
theorem pl_str {x : Str} (h : PyData.strOk x = true) : Pl st 0 (.str x) := ⟨.str x, rfl, by simpa [PyData.canLay0] using h, by simp [PyData.depth]⟩
theorem Pl.mono {l : Nat} {d : D} (h : Pl st k d) (hl : k ≤ l) : Pl st l d := let ⟨x, a, b, c⟩ := h; ⟨x, a, b, Nat.le_trans c hl⟩
theorem pl_tup {ds : List D} (h : ∀ d ∈ ds, Pl st k d) : Pl st (k + 1) (.tup ds) := by
  obtain ⟨xs, e, a, b⟩ := pls_some (prev := pcellN st 30) (ds := ds) h
  refine ⟨.tuple xs, ?_, by simpa [PyData.canLay0] using a, by simp only [PyData.depth]; omega⟩
  show (toPws (pcellN st 30) ds).map PyData.tuple = _
  rw [e]
  rfl
theorem pl_fl {ds : List D} (h : ∀ d ∈ ds, Pl st k d) : Pl st (k + 1) (.fl ds) := by
  obtain ⟨xs, e, a, b⟩ := pls_some (prev := pcellN st 30) (ds := ds) h
  refine ⟨.list xs, ?_, by simpa [PyData.canLay0] using a, by simp only [PyData.depth]; omega⟩
  show (toPws (pcellN st 30) ds).map PyData.list = _
  rw [e]
  rfl
theorem eq_self {d : D} (h : Pl st k d) (hk : k ≤ 64) : eqD d d st = some true := by
  obtain ⟨x, e, a, b⟩ := h
  have hp : plainP x = true := by
    unfold plainP
    rw [a, Bool.true_and]
    exact decide_eq_true (by omega)
  have hq : eqP d d st = some true := by
    unfold eqP
    rw [e]
    simp only [hp, Bool.and_true, if_true, eqv_self x a]
  unfold eqD
  split
  · simp
  · exact hq
theorem cmp_self {d : D} (h : Pl st k d) (hk : k ≤ 64) : cmpD .Eq d d st = some true := by simp only [cmpD, eq_self h hk]
theorem cmp_selfn {d : D} (h : Pl st k d) (hk : k ≤ 64) : cmpD .NotEq d d st = some false := by simp only [cmpD, eq_self h hk, Option.map_some, Bool.not_true]
end
end MM.Sh
end

section
set_option Elab.async false
set_option linter.all false
set_option maxRecDepth 100000
set_option maxHeartbeats 4000000
set_option exponentiation.threshold 200000
/-! ShRepr2: repr of texts, of a dict of one number. -/
namespace MM.Sh
open PySem MM
/-! ### texts -/
theorem char_lt (c : Char) : c.toNat < 0x110000 := by
  have := c.valid
  rcases this with h | h
  · have : c.toNat < 0xd800 := h
    omega
  · exact h.2
theorem reprChar_lt {q c : Nat} (hq : q < 0x110000) (hc : c < 0x110000) : ∀ e ∈ Builtin.Str.reprChar q c, e < 0x110000 := by
  intro e he
  unfold Builtin.Str.reprChar at he
  dsimp only at he
  repeat' split at he
  all_goals (simp at he)
  all_goals first
    | omega
    | (rcases he with h | h | ⟨_, h⟩ | ⟨a, _, h⟩ <;> first | omega | (rw [← h]; exact char_lt _))
theorem repr_so {x : Str} (h : PyData.strOk x = true) : PyData.strOk (reprText x) = true := by
  have hx : ∀ c ∈ x.cps.toList, c < 0x110000 := fun c hc => by
    have := Array.all_eq_true_iff_forall_mem.mp h c (Array.mem_toList_iff.mp hc)
    simpa using this
  have hq : reprQuote x < 0x110000 := by unfold reprQuote; split <;> decide
  have key : ∀ (l : List Nat) (acc : Array Nat), (∀ c ∈ l, c < 0x110000) → (∀ c ∈ acc, c < 0x110000) → ∀ c ∈ l.foldl (fun out c => out ++ (Builtin.Str.reprChar (reprQuote x) c).toArray) acc, c < 0x110000 := by
    intro l
    induction l with
    | nil => intro acc _ ha; exact ha
    | cons d r ih =>
      intro acc hl ha
      refine ih _ (fun c hc => hl c (List.mem_cons_of_mem _ hc)) fun c hc => ?_
      rcases Array.mem_append.mp hc with m | m
      · exact ha c m
      · exact reprChar_lt hq (hl d List.mem_cons_self) c (by simpa using m)
  have hh := key x.cps.toList #[reprQuote x] hx (fun c hc => by simp at hc; omega)
  unfold PyData.strOk
  rw [Array.all_eq_true_iff_forall_mem]
  intro c hc
  unfold reprText at hc
  rw [Array.mem_push, ← Array.foldl_toList] at hc
  rcases hc with m | m
  · simpa using hh c m
  · subst m; simpa using hq
theorem rpd_text {b : Bool} {st : Store} {x : Str} {n : Nat} (h : PyData.strOk x = true) (hl : x.length ≤ n) : RpD b st (10 * n + 2) 0 (.str x) := by
  refine rpd_str ?_ (repr_so h)
  have := StrLaws.reprText_len x fun c hc => by
    have := Array.all_eq_true_iff_forall_mem.mp h c (Array.mem_toList_iff.mp hc)
    have : c < 0x110000 := by simpa using this
    have e : (16 : Nat) ^ 8 = 4294967296 := by decide
    omega
  omega
/-! ### a dict of one number -/
theorem join1 (t : Str) : Str.join ", " [t] = t := rfl
theorem rp_dic1 {i j : Int} {m : Nat} (hm : 0 < m) (hi : i.natAbs < 2 ^ m) (hj : j.natAbs < 2 ^ m) (hz : m ≤ 1900) : Rp true (2 * m + 10) 1 (.dict [(.int i, .int j)]) := by
  have a := rp_int (b := true) hm hi hz
  have b := rp_int (b := true) hm hj hz
  have e : PyData.shown (.dict [(.int i, .int j)]) = ("{" : Str) ++ ((PyData.int i).shown ++ ": " ++ (PyData.int j).shown) ++ "}" := rfl
  have l1 : (("{" : Str)).length = 1 := by decide +kernel
  have l2 : (("}" : Str)).length = 1 := by decide +kernel
  have l3 : ((": " : Str)).length = 2 := by decide +kernel
  refine ⟨?_, ?_, ?_, ?_, ?_⟩
  · have h1 := a.sh
    have h2 := b.sh
    simp only [PyData.showable, PyData.showableKv, Bool.and_true, Bool.and_eq_true] at h1 h2 ⊢
    exact ⟨h1, h2⟩
  · rw [e]
    simp only [strLen_append]
    have := a.len
    have := b.len
    omega
  · show noL _ = true
    simp [noL, noLp]
  · simp [PyData.depth, PyData.depthKv]
  · rw [e]
    exact so_app (so_app (by decide +kernel) (so_app (so_app a.so (by decide +kernel)) b.so)) (by decide +kernel)
theorem rpd_dic1 {st : Store} {l : Nat} {i j : Int} {m : Nat} (h : st[l]? = some (.dic [(.int i, .int j)])) (hm : 0 < m) (hi : i.natAbs < 2 ^ m) (hj : j.natAbs < 2 ^ m) (hz : m ≤ 1900) : RpD true st (2 * m + 10) 1 (.loc l) := by
  refine ⟨.dict [(.int i, .int j)], ?_, rp_dic1 hm hi hj hz⟩
  show pcellN st 30 l = _
  simp only [pcellN, h]
  rfl
end MM.Sh
end

section
set_option Elab.async false
set_option linter.all false
set_option maxRecDepth 100000
set_option maxHeartbeats 4000000
/-! ShLam: fors over written lambdas; loops over written pairs; laws statement by statement. -/
namespace MM.Sh
open PySem MM
/-- ends with True -/
def Tr (r : SRes) : Prop := ∃ st', r = .ret (.bl true) st'
theorem tr_st {C : Orc} {fs : List Fr} {cu : Option Ex} {s : S} {ss : Ss} {ρ : Env} {st : Store} {Q : Env → Store → Prop} (h : ∃ ρ1 st1, evS C fs cu s ρ st = .nxt ρ1 st1 ∧ Q ρ1 st1) (k : ∀ ρ1 st1, Q ρ1 st1 → Tr (evSs C fs cu ss ρ1 st1)) : Tr (evSs C fs cu (.cons s ss) ρ st) := by
  obtain ⟨ρ1, st1, e, q⟩ := h
  obtain ⟨st', e'⟩ := k ρ1 st1 q
  exact ⟨st', sq_nxt e e'⟩
/-- a lap: goes on with what Q says -/
def Go (Q : Env → Store → Prop) (r : SRes) : Prop := ∃ ρ' st', (r = .nxt ρ' st' ∨ r = .cnt ρ' st') ∧ Q ρ' st'
theorem go_st {R : Env → Store → Prop} {C : Orc} {fs : List Fr} {cu : Option Ex} {s : S} {ss : Ss} {ρ : Env} {st : Store} {Q : Env → Store → Prop} (h : ∃ ρ1 st1, evS C fs cu s ρ st = .nxt ρ1 st1 ∧ Q ρ1 st1) (k : ∀ ρ1 st1, Q ρ1 st1 → Go R (evSs C fs cu ss ρ1 st1)) : Go R (evSs C fs cu (.cons s ss) ρ st) := by
  obtain ⟨ρ1, st1, e, q⟩ := h
  obtain ⟨ρ', st', e', q'⟩ := k ρ1 st1 q
  exact ⟨ρ', st', e'.imp (sq_nxt e) (sq_nxt e), q'⟩
theorem go_nil {R : Env → Store → Prop} {C : Orc} {fs : List Fr} {cu : Option Ex} {ρ : Env} {st : Store} (h : R ρ st) : Go R (evSs C fs cu .nil ρ st) := ⟨ρ, st, .inl rfl, h⟩
theorem go_cnt {R : Env → Store → Prop} {C : Orc} {fs : List Fr} {cu : Option Ex} {s : S} {ss : Ss} {ρ ρ1 : Env} {st st1 : Store} (e : evS C fs cu s ρ st = .cnt ρ1 st1) (h : R ρ1 st1) : Go R (evSs C fs cu (.cons s ss) ρ st) := ⟨ρ1, st1, .inr (by rw [ev_ss1, e]; rfl), h⟩
def AllEs (P : E → Prop) : Es → Prop | .nil => True | .cons e es => P e ∧ AllEs P es
theorem lams_all {C : Orc} {fs : List Fr} {g : Str} {i : Nat} {op : CmpOp} {r : Env → Store → Res D} {b : Env → Store → SRes} {st : Store} {ρ : Env} (hl : i < ρ.length) : ∀ (es : Es), AllEs (fun e => stepL C fs g op r b e (ρ.set i none) st = .nxt (ρ.set i none) st) es → ∀ ρ0, ρ0.set i none = ρ.set i none → ∃ ρ1, evLams C fs g i op r b es ρ0 st = .nxt ρ1 st ∧ ρ1.set i none = ρ.set i none ∧ (ρ1 = ρ0 ∨ ρ1 = ρ.set i none)
  | .nil, _, ρ0, h => ⟨ρ0, by simp only [evLams], h, .inl rfl⟩
  | .cons e es, ⟨h1, h2⟩, ρ0, h => by
    have h0 : ¬ ρ0.length ≤ i := by
      have := congrArg List.length h
      simp at this
      omega
    obtain ⟨ρ1, e1, e2, e3⟩ := lams_all hl es h2 (ρ.set i none) (by rw [List.set_set])
    refine ⟨ρ1, ?_, e2, ?_⟩
    · simp only [evLams, if_neg h0, h, h1]
      exact e1
    · rcases e3 with e3 | e3 <;> exact .inr e3
theorem lam_eq {C : Orc} {fs : List Fr} {g : Str} {r : Env → Store → Res D} {b : Env → Store → SRes} {st : Store} {ρ : Env} {e : E} {v : D} {k : Nat} (he : C ((ρ, some e) :: fs) g [] st = .ok v st) (hr : r ρ st = .ok v st) (hp : Pl st k v) (hk : k ≤ 64) : stepL C fs g .NotEq r b e ρ st = .nxt ρ st := by
  simp only [stepL, he, noExc, Res.bind_ok, hr, cmp_selfn hp hk, gc_same, SRes.of_ok]
  rfl
theorem lams_st {C : Orc} {fs : List Fr} {g : Str} {i : Nat} {e0 rhs : E} {es : Es} {body : Ss} {ρ : Env} {st : Store} (hl : i < ρ.length) (h : AllEs (fun e => stepL C fs g .NotEq (fun ρ st => evE C fs none rhs ρ st) (fun ρ st => evSs C fs none body ρ st) e (ρ.set i none) st = .nxt (ρ.set i none) st) (.cons e0 es)) :
    ∃ ρ1 st1, evS C fs none (.forS i g (.cons e0 es) .NotEq rhs body) ρ st = .nxt ρ1 st1 ∧ ρ1 = ρ.set i none ∧ st1 = st := by
  obtain ⟨ρ1, e1, e2, e3⟩ := lams_all hl (.cons e0 es) h ρ rfl
  have h0 : ¬ ρ.length ≤ i := by omega
  obtain ⟨ρ2, f1, f2, f3⟩ := lams_all hl es h.2 (ρ.set i none) (by rw [List.set_set])
  refine ⟨ρ2, st, ?_, ?_, rfl⟩
  · show evLams _ _ _ _ _ _ _ _ _ _ = _
    simp only [evLams, if_neg h0, h.1]
    exact f1
  · rcases f3 with f3 | f3 <;> exact f3
/-- for x, y in a written list of pairs, the turns changing nothing -/
theorem pairs_loop {b : Env → Store → SRes} {i j : Nat} (hij : i ≠ j) {st : Store} : ∀ (ps : List (D × D)) (ρ : Env), i < ρ.length → j < ρ.length → ps ≠ [] → (∀ q ∈ ps, b ((ρ.set i (some q.1)).set j (some q.2)) st = .nxt ((ρ.set i (some q.1)).set j (some q.2)) st) →
    ∃ q, q ∈ ps ∧ forL b (.t [i, j]) [] (ps.map fun q => .tup [q.1, q.2]) ρ st = .nxt ((ρ.set i (some q.1)).set j (some q.2)) st
  | [], _, _, _, h, _ => absurd rfl h
  | [q], ρ, hi, hj, _, h => by
    refine ⟨q, List.mem_cons_self, ?_⟩
    rw [List.map_cons, forL_cons (ρ1 := (ρ.set i (some q.1)).set j (some q.2)) (by simp [asgTg, asgN, hi, hj]), h q List.mem_cons_self, List.map_nil]
    exact forL_nil
  | q :: q' :: r, ρ, hi, hj, _, h => by
    have e : ∀ x : D × D, ((((ρ.set i (some q.1)).set j (some q.2)).set i (some x.1)).set j (some x.2)) = (ρ.set i (some x.1)).set j (some x.2) := fun x => by
      rw [List.set_comm _ _ (Ne.symm hij), List.set_set, List.set_set]
    obtain ⟨x, hx, k⟩ := pairs_loop (b := b) hij (q' :: r) ((ρ.set i (some q.1)).set j (some q.2)) (by simpa using hi) (by simpa using hj) (by simp) fun x hx => by
      rw [e]; exact h x (List.mem_cons_of_mem _ hx)
    refine ⟨x, List.mem_cons_of_mem _ hx, ?_⟩
    rw [List.map_cons, forL_cons (ρ1 := (ρ.set i (some q.1)).set j (some q.2)) (by simp [asgTg, asgN, hi, hj]), h q List.mem_cons_self]
    rw [e] at k
    exact k
/-- .. for x in written values -/
theorem items_loop {b : Env → Store → SRes} {i : Nat} {st : Store} : ∀ (ps : List D) (ρ : Env), ps ≠ [] → (∀ q ∈ ps, b (ρ.set i (some q)) st = .nxt (ρ.set i (some q)) st) →
    ∃ q, q ∈ ps ∧ forL b (.n i) [] ps ρ st = .nxt (ρ.set i (some q)) st
  | [], _, h, _ => absurd rfl h
  | [q], ρ, _, h => by
    refine ⟨q, List.mem_cons_self, ?_⟩
    rw [forL_cons (ρ1 := ρ.set i (some q)) rfl, h q List.mem_cons_self]
    exact forL_nil
  | q :: q' :: r, ρ, _, h => by
    have e : ∀ x : D, ((ρ.set i (some q)).set i (some x)) = ρ.set i (some x) := fun x => by rw [List.set_set]
    obtain ⟨x, hx, k⟩ := items_loop (b := b) (q' :: r) (ρ.set i (some q)) (by simp) fun x hx => by
      rw [e]; exact h x (List.mem_cons_of_mem _ hx)
    refine ⟨x, List.mem_cons_of_mem _ hx, ?_⟩
    rw [forL_cons (ρ1 := ρ.set i (some q)) rfl, h q List.mem_cons_self]
    rw [e] at k
    exact k
theorem ret_true (st st1 : Store) : ∃ st', retF st st1 (.bl true) = .ok (.bl true) st' := by
  have e : frzD st.length st1 9 (.bl true) = .bl true := rfl
  unfold retF
  rw [e]
  split
  · exact ⟨_, rfl⟩
  · exact ⟨_, rfl⟩
end MM.Sh
end

section
set_option Elab.async false
set_option linter.all false
set_option maxRecDepth 100000
/-! K02Ir: the law's defs, printed by m2gen.py. -/
namespace MM.K02
open PySem MM MM.F
def prog : List (Str × Fn) := [(("is_whole" : Str), f_is_whole), (("is_ratio" : Str), f_is_ratio), (("lowest" : Str), f_lowest), (("told" : Str), f_told), (("radd" : Str), f_radd), (("rsub" : Str), f_rsub), (("rmul" : Str), f_rmul), (("rdiv" : Str), f_rdiv), (("rless" : Str), f_rless), (("plus" : Str), f_plus), (("minus" : Str), f_minus), (("times" : Str), f_times), (("share_of" : Str), f_share_of), (("less" : Str), f_less), (("same" : Str), f_same), (("_law_pen" : Str), f__law_pen), (("_law_draw" : Str), f__law_draw), (("_law_pick" : Str), f__law_pick), (("_law_is_int" : Str), f__law_is_int), (("_law_gcd" : Str), f__law_gcd), (("_law_low" : Str), f__law_low), (("_law_add" : Str), f__law_add), (("_law_sub" : Str), f__law_sub), (("_law_mul" : Str), f__law_mul), (("_law_div" : Str), f__law_div), (("_law_less" : Str), f__law_less), (("_law_is_pair" : Str), f__law_is_pair), (("_law_loose" : Str), f__law_loose), (("_law_ratio" : Str), f__law_ratio), (("_law_fault" : Str), f__law_fault_v2), (("_law_is_ratio" : Str), f__law_is_ratio), (("_law_odd" : Str), f__law_odd), (("law" : Str), f_law_v2)]
def pr : Str → Option Fn := progOf prog
instance : H_is_whole pr := ⟨by rfl⟩
instance : H_is_ratio pr := ⟨by rfl⟩
instance : H_lowest pr := ⟨by rfl⟩
instance : H_told pr := ⟨by rfl⟩
instance : H_radd pr := ⟨by rfl⟩
instance : H_rsub pr := ⟨by rfl⟩
instance : H_rmul pr := ⟨by rfl⟩
instance : H_rdiv pr := ⟨by rfl⟩
instance : H_rless pr := ⟨by rfl⟩
instance : H_plus pr := ⟨by rfl⟩
instance : H_minus pr := ⟨by rfl⟩
instance : H_times pr := ⟨by rfl⟩
instance : H_share_of pr := ⟨by rfl⟩
instance : H_less pr := ⟨by rfl⟩
instance : H_same pr := ⟨by rfl⟩
instance : H__law_pen pr := ⟨by rfl⟩
instance : H__law_draw pr := ⟨by rfl⟩
instance : H__law_pick pr := ⟨by rfl⟩
instance : H__law_is_int pr := ⟨by rfl⟩
instance : H__law_gcd pr := ⟨by rfl⟩
instance : H__law_low pr := ⟨by rfl⟩
instance : H__law_add pr := ⟨by rfl⟩
instance : H__law_sub pr := ⟨by rfl⟩
instance : H__law_mul pr := ⟨by rfl⟩
instance : H__law_div pr := ⟨by rfl⟩
instance : H__law_less pr := ⟨by rfl⟩
instance : H__law_is_pair pr := ⟨by rfl⟩
instance : H__law_loose pr := ⟨by rfl⟩
instance : H__law_ratio pr := ⟨by rfl⟩
instance : H__law_fault_v2 pr := ⟨by rfl⟩
instance : H__law_is_ratio pr := ⟨by rfl⟩
instance : H__law_odd pr := ⟨by rfl⟩
instance : H_law_v2 pr := ⟨by rfl⟩
end MM.K02
end

section
set_option Elab.async false
set_option linter.all false
set_option maxRecDepth 100000
/-! K02Chk: the forms are the text's. -/
namespace MM.K02
open PySem L2 MM MM.F
def tops (i : Nat) : Stmt := PySem.Challenge.pw_meansmeet_k02_ratios.main.body.getD i (.Pass ⟨0, 0, 0, 0⟩)
def d_is_whole : Df := ⟨"is_whole", tops 6, ["value"], ["value"], b_is_whole, false, false⟩
def d_is_ratio : Df := ⟨"is_ratio", tops 7, ["value"], ["value"], b_is_ratio, false, false⟩
def d_lowest : Df := ⟨"lowest", tops 8, ["top", "bottom", "part"], ["top", "bottom"], b_lowest, false, false⟩
def d_told : Df := ⟨"told", tops 9, ["ratio"], ["ratio"], b_told, false, false⟩
def d_radd : Df := ⟨"radd", tops 10, ["one", "other"], ["one", "other"], b_radd, false, false⟩
def d_rsub : Df := ⟨"rsub", tops 11, ["one", "other"], ["one", "other"], b_rsub, false, false⟩
def d_rmul : Df := ⟨"rmul", tops 12, ["one", "other"], ["one", "other"], b_rmul, false, false⟩
def d_rdiv : Df := ⟨"rdiv", tops 13, ["one", "other", "top", "bottom"], ["one", "other"], b_rdiv, false, false⟩
def d_rless : Df := ⟨"rless", tops 14, ["one", "other"], ["one", "other"], b_rless, false, false⟩
def d_plus : Df := ⟨"plus", tops 15, ["one", "other", "left"], ["one", "other"], b_plus, false, false⟩
def d_minus : Df := ⟨"minus", tops 16, ["one", "other", "left"], ["one", "other"], b_minus, false, false⟩
def d_times : Df := ⟨"times", tops 17, ["one", "other", "left"], ["one", "other"], b_times, false, false⟩
def d_share_of : Df := ⟨"share_of", tops 18, ["one", "other", "left", "right"], ["one", "other"], b_share_of, false, false⟩
def d_less : Df := ⟨"less", tops 19, ["one", "other", "left"], ["one", "other"], b_less, false, false⟩
def d_same : Df := ⟨"same", tops 20, ["one", "other", "left"], ["one", "other"], b_same, false, false⟩
def d__law_pen : Df := ⟨"_law_pen", tops 22, ["script", "fold", "cell"], ["script"], b__law_pen, false, false⟩
def d__law_draw : Df := ⟨"_law_draw", tops 23, ["pen", "many", "cell", "digit", "blend"], ["pen", "many"], b__law_draw, false, false⟩
def d__law_pick : Df := ⟨"_law_pick", tops 24, ["pen", "some"], ["pen", "some"], b__law_pick, false, false⟩
def d__law_is_int : Df := ⟨"_law_is_int", tops 25, ["thing"], ["thing"], b__law_is_int, false, false⟩
def d__law_gcd : Df := ⟨"_law_gcd", tops 26, ["one", "other"], ["one", "other"], b__law_gcd, false, false⟩
def d__law_low : Df := ⟨"_law_low", tops 27, ["top", "bottom", "part"], ["top", "bottom"], b__law_low, false, false⟩
def d__law_add : Df := ⟨"_law_add", tops 28, ["one", "other"], ["one", "other"], b__law_add, false, false⟩
def d__law_sub : Df := ⟨"_law_sub", tops 29, ["one", "other"], ["one", "other"], b__law_sub, false, false⟩
def d__law_mul : Df := ⟨"_law_mul", tops 30, ["one", "other"], ["one", "other"], b__law_mul, false, false⟩
def d__law_div : Df := ⟨"_law_div", tops 31, ["one", "other", "sign"], ["one", "other"], b__law_div, false, false⟩
def d__law_less : Df := ⟨"_law_less", tops 32, ["one", "other"], ["one", "other"], b__law_less, false, false⟩
def d__law_is_pair : Df := ⟨"_law_is_pair", tops 33, ["thing"], ["thing"], b__law_is_pair, false, false⟩
def d__law_loose : Df := ⟨"_law_loose", tops 34, ["pen", "ratio", "way", "by"], ["pen", "ratio"], b__law_loose, false, false⟩
def d__law_ratio : Df := ⟨"_law_ratio", tops 35, ["pen", "way", "size", "top"], ["pen"], b__law_ratio, false, false⟩
def d__law_fault : Df := ⟨"_law_fault", tops 36, ["work", "fault"], ["work"], b__law_fault_v2, false, true⟩
def d__law_is_ratio : Df := ⟨"_law_is_ratio", tops 37, ["value"], ["value"], b__law_is_ratio, false, false⟩
def d__law_odd : Df := ⟨"_law_odd", tops 38, ["pen", "top", "low", "way"], ["pen"], b__law_odd, false, false⟩
def d_law : Df := ⟨"law", tops 39, ["script", "pen", "lap", "odd", "one", "two", "left", "right", "value", "got", "due", "other", "wrong", "work"], ["script"], b_law_v2, true, false⟩
def x_BadRatio : Xc := ⟨"BadRatio", ["value"], inClass (tops 3) 0, "BadRatio.__init__", ["self", "value"]⟩
def x_BadNumber : Xc := ⟨"BadNumber", ["what", "number"], inClass (tops 4) 0, "BadNumber.__init__", ["self", "what", "number"]⟩
def tbl : Tb := ⟨[.blen, .bgcd, .bint, .blist, .babs, .brepr, .bstr], [.int, .bool, .tuple, .list], []⟩
def pg : Pg := ⟨tbl, [("BadRatio", ["value"]), ("BadNumber", ["what", "number"])], [("BadNumber", ["BadNumber"]), ("BadRatio", ["BadRatio"])], ["value", "what", "number"], [("BadNumber", ["BadNumber"])], [d_is_whole, d_is_ratio, d_lowest, d_told, d_radd, d_rsub, d_rmul, d_rdiv, d_rless, d_plus, d_minus, d_times, d_share_of, d_less, d_same, d__law_pen, d__law_draw, d__law_pick, d__law_is_int, d__law_gcd, d__law_low, d__law_add, d__law_sub, d__law_mul, d__law_div, d__law_less, d__law_is_pair, d__law_loose, d__law_ratio, d__law_fault, d__law_is_ratio, d__law_odd, d_law]⟩
theorem o_is_whole : pg.ok d_is_whole = true := by decide +kernel
theorem o_is_ratio : pg.ok d_is_ratio = true := by decide +kernel
theorem o_lowest : pg.ok d_lowest = true := by decide +kernel
theorem o_told : pg.ok d_told = true := by decide +kernel
theorem o_radd : pg.ok d_radd = true := by decide +kernel
theorem o_rsub : pg.ok d_rsub = true := by decide +kernel
theorem o_rmul : pg.ok d_rmul = true := by decide +kernel
theorem o_rdiv : pg.ok d_rdiv = true := by decide +kernel
theorem o_rless : pg.ok d_rless = true := by decide +kernel
theorem o_plus : pg.ok d_plus = true := by decide +kernel
theorem o_minus : pg.ok d_minus = true := by decide +kernel
theorem o_times : pg.ok d_times = true := by decide +kernel
theorem o_share_of : pg.ok d_share_of = true := by decide +kernel
theorem o_less : pg.ok d_less = true := by decide +kernel
theorem o_same : pg.ok d_same = true := by decide +kernel
theorem o__law_pen : pg.ok d__law_pen = true := by decide +kernel
theorem o__law_draw : pg.ok d__law_draw = true := by decide +kernel
theorem o__law_pick : pg.ok d__law_pick = true := by decide +kernel
theorem o__law_is_int : pg.ok d__law_is_int = true := by decide +kernel
theorem o__law_gcd : pg.ok d__law_gcd = true := by decide +kernel
theorem o__law_low : pg.ok d__law_low = true := by decide +kernel
theorem o__law_add : pg.ok d__law_add = true := by decide +kernel
theorem o__law_sub : pg.ok d__law_sub = true := by decide +kernel
theorem o__law_mul : pg.ok d__law_mul = true := by decide +kernel
theorem o__law_div : pg.ok d__law_div = true := by decide +kernel
theorem o__law_less : pg.ok d__law_less = true := by decide +kernel
theorem o__law_is_pair : pg.ok d__law_is_pair = true := by decide +kernel
theorem o__law_loose : pg.ok d__law_loose = true := by decide +kernel
theorem o__law_ratio : pg.ok d__law_ratio = true := by decide +kernel
theorem o__law_fault : pg.ok d__law_fault = true := by decide +kernel
theorem o__law_is_ratio : pg.ok d__law_is_ratio = true := by decide +kernel
theorem o__law_odd : pg.ok d__law_odd = true := by decide +kernel
theorem o_law : pg.ok d_law = true := by decide +kernel
theorem oks : pg.defs.all pg.ok = true := by
  show ([d_is_whole, d_is_ratio, d_lowest, d_told, d_radd, d_rsub, d_rmul, d_rdiv, d_rless, d_plus, d_minus, d_times, d_share_of, d_less, d_same, d__law_pen, d__law_draw, d__law_pick, d__law_is_int, d__law_gcd, d__law_low, d__law_add, d__law_sub, d__law_mul, d__law_div, d__law_less, d__law_is_pair, d__law_loose, d__law_ratio, d__law_fault, d__law_is_ratio, d__law_odd, d_law] : List Df).all pg.ok = true
  simp only [List.all_cons, List.all_nil, Bool.and_true, o_is_whole, o_is_ratio, o_lowest, o_told, o_radd, o_rsub, o_rmul, o_rdiv, o_rless, o_plus, o_minus, o_times, o_share_of, o_less, o_same, o__law_pen, o__law_draw, o__law_pick, o__law_is_int, o__law_gcd, o__law_low, o__law_add, o__law_sub, o__law_mul, o__law_div, o__law_less, o__law_is_pair, o__law_loose, o__law_ratio, o__law_fault, o__law_is_ratio, o__law_odd, o_law]
theorem ond : (pg.defs.map (·.x)).Nodup := by decide +kernel
theorem pgfn : pg.fn = pr := rfl
theorem ox_BadRatio : x_BadRatio.ok = true := by decide +kernel
theorem ox_BadNumber : x_BadNumber.ok = true := by decide +kernel
theorem oxs : (([x_BadRatio, x_BadNumber] : List Xc).all fun x => x.ok && (x.fl.all fun f => decide (f ∈ pg.xf))) = true := by decide +kernel
theorem ors : (pg.rs.all fun q => ([x_BadRatio, x_BadNumber] : List Xc).any fun x => decide (x.c = q.1 ∧ x.fl = q.2)) = true := by decide +kernel
theorem bd_is_whole : ∀ (kV doc pm : Value) (an : Option Addr) (cdv ct : Value) (us : List Value), us.length = 1 → bindArgs (PySem.W.fnOf "is_whole" "is_whole" (defArgs (tops 6)) (defBody (tops 6)) (defScope (tops 6)) .none kV doc pm an cdv ct) ⟨us, []⟩ = pure ((["value"] : List Str).zip us) := fun _ _ _ _ _ _ us hl => match us, hl with | [_], _ => rfl
theorem bd_is_ratio : ∀ (kV doc pm : Value) (an : Option Addr) (cdv ct : Value) (us : List Value), us.length = 1 → bindArgs (PySem.W.fnOf "is_ratio" "is_ratio" (defArgs (tops 7)) (defBody (tops 7)) (defScope (tops 7)) .none kV doc pm an cdv ct) ⟨us, []⟩ = pure ((["value"] : List Str).zip us) := fun _ _ _ _ _ _ us hl => match us, hl with | [_], _ => rfl
theorem bd_lowest : ∀ (kV doc pm : Value) (an : Option Addr) (cdv ct : Value) (us : List Value), us.length = 2 → bindArgs (PySem.W.fnOf "lowest" "lowest" (defArgs (tops 8)) (defBody (tops 8)) (defScope (tops 8)) .none kV doc pm an cdv ct) ⟨us, []⟩ = pure ((["top", "bottom"] : List Str).zip us) := fun _ _ _ _ _ _ us hl => match us, hl with | [_, _], _ => rfl
theorem bd_told : ∀ (kV doc pm : Value) (an : Option Addr) (cdv ct : Value) (us : List Value), us.length = 1 → bindArgs (PySem.W.fnOf "told" "told" (defArgs (tops 9)) (defBody (tops 9)) (defScope (tops 9)) .none kV doc pm an cdv ct) ⟨us, []⟩ = pure ((["ratio"] : List Str).zip us) := fun _ _ _ _ _ _ us hl => match us, hl with | [_], _ => rfl
theorem bd_radd : ∀ (kV doc pm : Value) (an : Option Addr) (cdv ct : Value) (us : List Value), us.length = 2 → bindArgs (PySem.W.fnOf "radd" "radd" (defArgs (tops 10)) (defBody (tops 10)) (defScope (tops 10)) .none kV doc pm an cdv ct) ⟨us, []⟩ = pure ((["one", "other"] : List Str).zip us) := fun _ _ _ _ _ _ us hl => match us, hl with | [_, _], _ => rfl
theorem bd_rsub : ∀ (kV doc pm : Value) (an : Option Addr) (cdv ct : Value) (us : List Value), us.length = 2 → bindArgs (PySem.W.fnOf "rsub" "rsub" (defArgs (tops 11)) (defBody (tops 11)) (defScope (tops 11)) .none kV doc pm an cdv ct) ⟨us, []⟩ = pure ((["one", "other"] : List Str).zip us) := fun _ _ _ _ _ _ us hl => match us, hl with | [_, _], _ => rfl
theorem bd_rmul : ∀ (kV doc pm : Value) (an : Option Addr) (cdv ct : Value) (us : List Value), us.length = 2 → bindArgs (PySem.W.fnOf "rmul" "rmul" (defArgs (tops 12)) (defBody (tops 12)) (defScope (tops 12)) .none kV doc pm an cdv ct) ⟨us, []⟩ = pure ((["one", "other"] : List Str).zip us) := fun _ _ _ _ _ _ us hl => match us, hl with | [_, _], _ => rfl
theorem bd_rdiv : ∀ (kV doc pm : Value) (an : Option Addr) (cdv ct : Value) (us : List Value), us.length = 2 → bindArgs (PySem.W.fnOf "rdiv" "rdiv" (defArgs (tops 13)) (defBody (tops 13)) (defScope (tops 13)) .none kV doc pm an cdv ct) ⟨us, []⟩ = pure ((["one", "other"] : List Str).zip us) := fun _ _ _ _ _ _ us hl => match us, hl with | [_, _], _ => rfl
theorem bd_rless : ∀ (kV doc pm : Value) (an : Option Addr) (cdv ct : Value) (us : List Value), us.length = 2 → bindArgs (PySem.W.fnOf "rless" "rless" (defArgs (tops 14)) (defBody (tops 14)) (defScope (tops 14)) .none kV doc pm an cdv ct) ⟨us, []⟩ = pure ((["one", "other"] : List Str).zip us) := fun _ _ _ _ _ _ us hl => match us, hl with | [_, _], _ => rfl
theorem bd_plus : ∀ (kV doc pm : Value) (an : Option Addr) (cdv ct : Value) (us : List Value), us.length = 2 → bindArgs (PySem.W.fnOf "plus" "plus" (defArgs (tops 15)) (defBody (tops 15)) (defScope (tops 15)) .none kV doc pm an cdv ct) ⟨us, []⟩ = pure ((["one", "other"] : List Str).zip us) := fun _ _ _ _ _ _ us hl => match us, hl with | [_, _], _ => rfl
theorem bd_minus : ∀ (kV doc pm : Value) (an : Option Addr) (cdv ct : Value) (us : List Value), us.length = 2 → bindArgs (PySem.W.fnOf "minus" "minus" (defArgs (tops 16)) (defBody (tops 16)) (defScope (tops 16)) .none kV doc pm an cdv ct) ⟨us, []⟩ = pure ((["one", "other"] : List Str).zip us) := fun _ _ _ _ _ _ us hl => match us, hl with | [_, _], _ => rfl
theorem bd_times : ∀ (kV doc pm : Value) (an : Option Addr) (cdv ct : Value) (us : List Value), us.length = 2 → bindArgs (PySem.W.fnOf "times" "times" (defArgs (tops 17)) (defBody (tops 17)) (defScope (tops 17)) .none kV doc pm an cdv ct) ⟨us, []⟩ = pure ((["one", "other"] : List Str).zip us) := fun _ _ _ _ _ _ us hl => match us, hl with | [_, _], _ => rfl
theorem bd_share_of : ∀ (kV doc pm : Value) (an : Option Addr) (cdv ct : Value) (us : List Value), us.length = 2 → bindArgs (PySem.W.fnOf "share_of" "share_of" (defArgs (tops 18)) (defBody (tops 18)) (defScope (tops 18)) .none kV doc pm an cdv ct) ⟨us, []⟩ = pure ((["one", "other"] : List Str).zip us) := fun _ _ _ _ _ _ us hl => match us, hl with | [_, _], _ => rfl
theorem bd_less : ∀ (kV doc pm : Value) (an : Option Addr) (cdv ct : Value) (us : List Value), us.length = 2 → bindArgs (PySem.W.fnOf "less" "less" (defArgs (tops 19)) (defBody (tops 19)) (defScope (tops 19)) .none kV doc pm an cdv ct) ⟨us, []⟩ = pure ((["one", "other"] : List Str).zip us) := fun _ _ _ _ _ _ us hl => match us, hl with | [_, _], _ => rfl
theorem bd_same : ∀ (kV doc pm : Value) (an : Option Addr) (cdv ct : Value) (us : List Value), us.length = 2 → bindArgs (PySem.W.fnOf "same" "same" (defArgs (tops 20)) (defBody (tops 20)) (defScope (tops 20)) .none kV doc pm an cdv ct) ⟨us, []⟩ = pure ((["one", "other"] : List Str).zip us) := fun _ _ _ _ _ _ us hl => match us, hl with | [_, _], _ => rfl
theorem bd__law_pen : ∀ (kV doc pm : Value) (an : Option Addr) (cdv ct : Value) (us : List Value), us.length = 1 → bindArgs (PySem.W.fnOf "_law_pen" "_law_pen" (defArgs (tops 22)) (defBody (tops 22)) (defScope (tops 22)) .none kV doc pm an cdv ct) ⟨us, []⟩ = pure ((["script"] : List Str).zip us) := fun _ _ _ _ _ _ us hl => match us, hl with | [_], _ => rfl
theorem bd__law_draw : ∀ (kV doc pm : Value) (an : Option Addr) (cdv ct : Value) (us : List Value), us.length = 2 → bindArgs (PySem.W.fnOf "_law_draw" "_law_draw" (defArgs (tops 23)) (defBody (tops 23)) (defScope (tops 23)) .none kV doc pm an cdv ct) ⟨us, []⟩ = pure ((["pen", "many"] : List Str).zip us) := fun _ _ _ _ _ _ us hl => match us, hl with | [_, _], _ => rfl
theorem bd__law_pick : ∀ (kV doc pm : Value) (an : Option Addr) (cdv ct : Value) (us : List Value), us.length = 2 → bindArgs (PySem.W.fnOf "_law_pick" "_law_pick" (defArgs (tops 24)) (defBody (tops 24)) (defScope (tops 24)) .none kV doc pm an cdv ct) ⟨us, []⟩ = pure ((["pen", "some"] : List Str).zip us) := fun _ _ _ _ _ _ us hl => match us, hl with | [_, _], _ => rfl
theorem bd__law_is_int : ∀ (kV doc pm : Value) (an : Option Addr) (cdv ct : Value) (us : List Value), us.length = 1 → bindArgs (PySem.W.fnOf "_law_is_int" "_law_is_int" (defArgs (tops 25)) (defBody (tops 25)) (defScope (tops 25)) .none kV doc pm an cdv ct) ⟨us, []⟩ = pure ((["thing"] : List Str).zip us) := fun _ _ _ _ _ _ us hl => match us, hl with | [_], _ => rfl
theorem bd__law_gcd : ∀ (kV doc pm : Value) (an : Option Addr) (cdv ct : Value) (us : List Value), us.length = 2 → bindArgs (PySem.W.fnOf "_law_gcd" "_law_gcd" (defArgs (tops 26)) (defBody (tops 26)) (defScope (tops 26)) .none kV doc pm an cdv ct) ⟨us, []⟩ = pure ((["one", "other"] : List Str).zip us) := fun _ _ _ _ _ _ us hl => match us, hl with | [_, _], _ => rfl
theorem bd__law_low : ∀ (kV doc pm : Value) (an : Option Addr) (cdv ct : Value) (us : List Value), us.length = 2 → bindArgs (PySem.W.fnOf "_law_low" "_law_low" (defArgs (tops 27)) (defBody (tops 27)) (defScope (tops 27)) .none kV doc pm an cdv ct) ⟨us, []⟩ = pure ((["top", "bottom"] : List Str).zip us) := fun _ _ _ _ _ _ us hl => match us, hl with | [_, _], _ => rfl
theorem bd__law_add : ∀ (kV doc pm : Value) (an : Option Addr) (cdv ct : Value) (us : List Value), us.length = 2 → bindArgs (PySem.W.fnOf "_law_add" "_law_add" (defArgs (tops 28)) (defBody (tops 28)) (defScope (tops 28)) .none kV doc pm an cdv ct) ⟨us, []⟩ = pure ((["one", "other"] : List Str).zip us) := fun _ _ _ _ _ _ us hl => match us, hl with | [_, _], _ => rfl
theorem bd__law_sub : ∀ (kV doc pm : Value) (an : Option Addr) (cdv ct : Value) (us : List Value), us.length = 2 → bindArgs (PySem.W.fnOf "_law_sub" "_law_sub" (defArgs (tops 29)) (defBody (tops 29)) (defScope (tops 29)) .none kV doc pm an cdv ct) ⟨us, []⟩ = pure ((["one", "other"] : List Str).zip us) := fun _ _ _ _ _ _ us hl => match us, hl with | [_, _], _ => rfl
theorem bd__law_mul : ∀ (kV doc pm : Value) (an : Option Addr) (cdv ct : Value) (us : List Value), us.length = 2 → bindArgs (PySem.W.fnOf "_law_mul" "_law_mul" (defArgs (tops 30)) (defBody (tops 30)) (defScope (tops 30)) .none kV doc pm an cdv ct) ⟨us, []⟩ = pure ((["one", "other"] : List Str).zip us) := fun _ _ _ _ _ _ us hl => match us, hl with | [_, _], _ => rfl
theorem bd__law_div : ∀ (kV doc pm : Value) (an : Option Addr) (cdv ct : Value) (us : List Value), us.length = 2 → bindArgs (PySem.W.fnOf "_law_div" "_law_div" (defArgs (tops 31)) (defBody (tops 31)) (defScope (tops 31)) .none kV doc pm an cdv ct) ⟨us, []⟩ = pure ((["one", "other"] : List Str).zip us) := fun _ _ _ _ _ _ us hl => match us, hl with | [_, _], _ => rfl
theorem bd__law_less : ∀ (kV doc pm : Value) (an : Option Addr) (cdv ct : Value) (us : List Value), us.length = 2 → bindArgs (PySem.W.fnOf "_law_less" "_law_less" (defArgs (tops 32)) (defBody (tops 32)) (defScope (tops 32)) .none kV doc pm an cdv ct) ⟨us, []⟩ = pure ((["one", "other"] : List Str).zip us) := fun _ _ _ _ _ _ us hl => match us, hl with | [_, _], _ => rfl
theorem bd__law_is_pair : ∀ (kV doc pm : Value) (an : Option Addr) (cdv ct : Value) (us : List Value), us.length = 1 → bindArgs (PySem.W.fnOf "_law_is_pair" "_law_is_pair" (defArgs (tops 33)) (defBody (tops 33)) (defScope (tops 33)) .none kV doc pm an cdv ct) ⟨us, []⟩ = pure ((["thing"] : List Str).zip us) := fun _ _ _ _ _ _ us hl => match us, hl with | [_], _ => rfl
theorem bd__law_loose : ∀ (kV doc pm : Value) (an : Option Addr) (cdv ct : Value) (us : List Value), us.length = 2 → bindArgs (PySem.W.fnOf "_law_loose" "_law_loose" (defArgs (tops 34)) (defBody (tops 34)) (defScope (tops 34)) .none kV doc pm an cdv ct) ⟨us, []⟩ = pure ((["pen", "ratio"] : List Str).zip us) := fun _ _ _ _ _ _ us hl => match us, hl with | [_, _], _ => rfl
theorem bd__law_ratio : ∀ (kV doc pm : Value) (an : Option Addr) (cdv ct : Value) (us : List Value), us.length = 1 → bindArgs (PySem.W.fnOf "_law_ratio" "_law_ratio" (defArgs (tops 35)) (defBody (tops 35)) (defScope (tops 35)) .none kV doc pm an cdv ct) ⟨us, []⟩ = pure ((["pen"] : List Str).zip us) := fun _ _ _ _ _ _ us hl => match us, hl with | [_], _ => rfl
theorem bd__law_fault : ∀ (kV doc pm : Value) (an : Option Addr) (cdv ct : Value) (us : List Value), us.length = 1 → bindArgs (PySem.W.fnOf "_law_fault" "_law_fault" (defArgs (tops 36)) (defBody (tops 36)) (defScope (tops 36)) .none kV doc pm an cdv ct) ⟨us, []⟩ = pure ((["work"] : List Str).zip us) := fun _ _ _ _ _ _ us hl => match us, hl with | [_], _ => rfl
theorem bd__law_is_ratio : ∀ (kV doc pm : Value) (an : Option Addr) (cdv ct : Value) (us : List Value), us.length = 1 → bindArgs (PySem.W.fnOf "_law_is_ratio" "_law_is_ratio" (defArgs (tops 37)) (defBody (tops 37)) (defScope (tops 37)) .none kV doc pm an cdv ct) ⟨us, []⟩ = pure ((["value"] : List Str).zip us) := fun _ _ _ _ _ _ us hl => match us, hl with | [_], _ => rfl
theorem bd__law_odd : ∀ (kV doc pm : Value) (an : Option Addr) (cdv ct : Value) (us : List Value), us.length = 1 → bindArgs (PySem.W.fnOf "_law_odd" "_law_odd" (defArgs (tops 38)) (defBody (tops 38)) (defScope (tops 38)) .none kV doc pm an cdv ct) ⟨us, []⟩ = pure ((["pen"] : List Str).zip us) := fun _ _ _ _ _ _ us hl => match us, hl with | [_], _ => rfl
theorem bd_law : ∀ (kV doc pm : Value) (an : Option Addr) (cdv ct : Value) (us : List Value), us.length = 1 → bindArgs (PySem.W.fnOf "law" "law" (defArgs (tops 39)) (defBody (tops 39)) (defScope (tops 39)) .none kV doc pm an cdv ct) ⟨us, []⟩ = pure ((["script"] : List Str).zip us) := fun _ _ _ _ _ _ us hl => match us, hl with | [_], _ => rfl
theorem bd_xBadRatio : ∀ (kV doc pm : Value) (an : Option Addr) (cdv ct : Value) (us : List Value), us.length = 2 → bindArgs (PySem.W.fnOf "__init__" "BadRatio.__init__" (defArgs (inClass (tops 3) 0)) (defBody (inClass (tops 3) 0)) (defScope (inClass (tops 3) 0)) .none kV doc pm an cdv ct) ⟨us, []⟩ = pure ((["self", "value"] : List Str).zip us) := fun _ _ _ _ _ _ us hl => match us, hl with | [_, _], _ => rfl
theorem bd_xBadNumber : ∀ (kV doc pm : Value) (an : Option Addr) (cdv ct : Value) (us : List Value), us.length = 3 → bindArgs (PySem.W.fnOf "__init__" "BadNumber.__init__" (defArgs (inClass (tops 4) 0)) (defBody (inClass (tops 4) 0)) (defScope (inClass (tops 4) 0)) .none kV doc pm an cdv ct) ⟨us, []⟩ = pure ((["self", "what", "number"] : List Str).zip us) := fun _ _ _ _ _ _ us hl => match us, hl with | [_, _, _], _ => rfl
end MM.K02
end

section
set_option Elab.async false
set_option linter.all false
set_option maxRecDepth 100000
set_option maxHeartbeats 4000000
set_option exponentiation.threshold 200000
namespace MM.K02
open PySem MM MM.F MM.Sh
/-! ### odd values -/
structure Odd (st : Store) (d : D) : Prop where
  ok : Okd st d
  rp : ∃ b, RpD b st 20000 4 d
def dicC (i j : Int) : Cell := .dic [(.int i, .int j)]
/-- where what is drawn stands: nowhere, or it is the dict just laid -/
def Laid (r g : Store) (d : D) : Prop := (d.lim = 0 ∧ g = []) ∨ (d = .loc (r.length + 1) ∧ ∃ i j, g = [dicC i j] ∧ i.natAbs < 2 ^ 64 ∧ j.natAbs < 2 ^ 64)
/-- plain data of a size -/
def Fl (d : D) : Prop := d.lim = 0 ∧ ∀ st, Odd st d
theorem fl_mk {d : D} {n k : Nat} (h : d.lim = 0) (ho : ∀ st, Okd st d) (hr : ∀ st, RpD false st n k d) (hn : n ≤ 20000) (hk : k ≤ 4) : Fl d := ⟨h, fun st => ⟨ho st, false, (hr st).mono hn hk⟩⟩
theorem r_int {st : Store} {i : Int} (h : i.natAbs < 2 ^ 64) : RpD false st 100 0 (.int i) := (rpd_int (m := 64) (by decide) h (by decide)).mono (by decide) (Nat.le_refl _)
theorem r_bl {st : Store} (c : Bool) : RpD false st 100 0 (.bl c) := (rpd_bl c).mono (by decide) (Nat.le_refl _)
theorem r_non {st : Store} : RpD false st 100 0 .non := rpd_non.mono (by decide) (Nat.le_refl _)
theorem r_num {st : Store} {i : Int} (h : i.natAbs < 2 ^ 64) : RpD false st 1000 0 (.str (Str.ofString (toString i))) := by
  have h10 : i.natAbs < 10 ^ 64 := Nat.lt_of_lt_of_le h (Nat.pow_le_pow_left (by decide) 64)
  exact (rpd_text (n := 65) (int_so i) (int_len (by decide) h10)).mono (by decide) (Nat.le_refl _)
theorem r_two {st : Store} {n k : Nat} {a b : D} (ha : RpD false st n k a) (hb : RpD false st n k b) : RpD false st (2 * (n + 2) + 3) (k + 1) (.tup [a, b]) := rpd_tup (n := n) (k := k) fun d hd => by
  simp at hd
  rcases hd with rfl | rfl
  · exact ha
  · exact hb
theorem r_twoF {st : Store} {n k : Nat} {a b : D} (ha : RpD false st n k a) (hb : RpD false st n k b) : RpD false st (2 * (n + 2) + 3) (k + 1) (.fl [a, b]) := rpd_fl (n := n) (k := k) fun d hd => by
  simp at hd
  rcases hd with rfl | rfl
  · exact ha
  · exact hb
section
variable {p : Str → Option Fn} {P : Pen} {c : Nat} {r : Store}
theorem bstr_ok {st : Store} {i : Int} (h : i.natAbs < 2 ^ 64) : bltD .bstr [.int i] st = .ok (.str (Str.ofString (toString i))) st := by
  have hl := log_lt h (by decide)
  simp only [bltD]
  rw [if_pos (by omega)]
theorem odd_ok [H__law_draw p] [H__law_pick p] [H__law_odd p] (h : Pn (c + 4) P) : ∃ d g P', Laid r g d ∧ (∀ st, (d.lim = 0 ∨ (d = .loc (r.length + 1) ∧ st[r.length + 1]? = g[0]?)) → Odd st d) ∧ Pn c P' ∧ ∀ n fs, callN p (n + 3) fs "_law_odd" [.loc 0] (penC P :: r) = .ok d (penC P' :: (r ++ g)) := by
  have cf := H__law_odd.h (p := p)
  obtain ⟨t0, P1, a0, a1, h1, e1⟩ := draw_ok (p := p) (m := 2000) (r := r) h (by decide) (by decide)
  obtain ⟨low, P2, b0, b1, h2, e2⟩ := draw_ok (p := p) (m := 1000000000000) (r := r) h1 (by decide) (by decide)
  obtain ⟨w, P3, w0, w1, h3, e3⟩ := draw_ok (p := p) (m := 9) (r := r) h2 (by decide) (by decide)
  obtain ⟨top, ht⟩ : ∃ t, t = t0 - 1000 := ⟨_, rfl⟩
  have ht1 : top.natAbs < 2 ^ 64 := by omega
  have s1 : ∀ n fs, evS (callN p (n + 2)) fs none s__law_odd_1 [some (.loc 0), none, none, none] (penC P :: r) = .nxt [some (.loc 0), some (.int top), some (.int low), none] (penC P2 :: r) := fun n fs => by
    simp [s__law_odd_1, e1, e2, pow12, asgN, ht]
  have s2 : ∀ n fs, evS (callN p (n + 2)) fs none s__law_odd_2 [some (.loc 0), some (.int top), some (.int low), none] (penC P2 :: r) = .nxt [some (.loc 0), some (.int top), some (.int low), some (.int w)] (penC P3 :: r) := fun n fs => by
    simp [s__law_odd_2, e3]
  -- a value that is laid nowhere
  have fin : ∀ (d : D) (Q : Pen), Fl d → Pn c Q → (∀ n fs, ∃ z : SRes, evSs (callN p (n + 2)) fs none b__law_odd [some (.loc 0), none, none, none] (penC P :: r) = .ret d (penC Q :: r)) → ∃ d g P', Laid r g d ∧ (∀ st, (d.lim = 0 ∨ (d = .loc (r.length + 1) ∧ st[r.length + 1]? = g[0]?)) → Odd st d) ∧ Pn c P' ∧ ∀ n fs, callN p (n + 3) fs "_law_odd" [.loc 0] (penC P :: r) = .ok d (penC P' :: (r ++ g)) := fun d Q hd hq he => by
    refine ⟨d, [], Q, .inl ⟨hd.1, rfl⟩, fun st _ => hd.2 st, hq, fun n fs => ?_⟩
    rw [call_fn cf (by decide) rfl, List.append_nil]
    obtain ⟨_, e⟩ := he n fs
    show retD _ (evSs (callN p (n + 2)) fs none b__law_odd [some (.loc 0), none, none, none] (penC P :: r)) = _
    rw [e, retD_ret, ret_pen _ _ _ hd.1]
  have s3 : ∀ n fs, ¬ w = 0 → evS (callN p (n + 2)) fs none s__law_odd_3 [some (.loc 0), some (.int top), some (.int low), some (.int w)] (penC P3 :: r) = .nxt [some (.loc 0), some (.int top), some (.int low), some (.int w)] (penC P3 :: r) := fun n fs hw => by simp [s__law_odd_3, hw]
  have s5 : ∀ n fs, ¬ w = 1 → evS (callN p (n + 2)) fs none s__law_odd_5 [some (.loc 0), some (.int top), some (.int low), some (.int w)] (penC P3 :: r) = .nxt [some (.loc 0), some (.int top), some (.int low), some (.int w)] (penC P3 :: r) := fun n fs hw => by simp [s__law_odd_5, hw]
  have s7 : ∀ n fs, ¬ w = 2 → evS (callN p (n + 2)) fs none s__law_odd_7 [some (.loc 0), some (.int top), some (.int low), some (.int w)] (penC P3 :: r) = .nxt [some (.loc 0), some (.int top), some (.int low), some (.int w)] (penC P3 :: r) := fun n fs hw => by simp [s__law_odd_7, hw]
  have s9 : ∀ n fs, ¬ w = 3 → evS (callN p (n + 2)) fs none s__law_odd_9 [some (.loc 0), some (.int top), some (.int low), some (.int w)] (penC P3 :: r) = .nxt [some (.loc 0), some (.int top), some (.int low), some (.int w)] (penC P3 :: r) := fun n fs hw => by simp [s__law_odd_9, hw]
  have s11 : ∀ n fs, ¬ w = 4 → evS (callN p (n + 2)) fs none s__law_odd_11 [some (.loc 0), some (.int top), some (.int low), some (.int w)] (penC P3 :: r) = .nxt [some (.loc 0), some (.int top), some (.int low), some (.int w)] (penC P3 :: r) := fun n fs hw => by simp [s__law_odd_11, hw]
  have s13 : ∀ n fs, ¬ w = 5 → evS (callN p (n + 2)) fs none s__law_odd_13 [some (.loc 0), some (.int top), some (.int low), some (.int w)] (penC P3 :: r) = .nxt [some (.loc 0), some (.int top), some (.int low), some (.int w)] (penC P3 :: r) := fun n fs hw => by simp [s__law_odd_13, hw]
  have s15 : ∀ n fs, ¬ w = 6 → evS (callN p (n + 2)) fs none s__law_odd_15 [some (.loc 0), some (.int top), some (.int low), some (.int w)] (penC P3 :: r) = .nxt [some (.loc 0), some (.int top), some (.int low), some (.int w)] (penC P3 :: r) := fun n fs hw => by simp [s__law_odd_15, hw]
  have frz : ∀ xs : List D, D.lims xs = 0 → frzE (penC P3 :: r) (.loc (r.length + 1)) (penC P3 :: (r ++ [Cell.lst xs])) = .ok (.fl xs) (penC P3 :: r) := fun xs hx => frz_pen P3 P3 r hx
  have wd := h3.mono (show c ≤ c + 1 by omega)
  by_cases c0 : w = 0
  · subst c0
    refine fin (.tup [.int top, .int (-low)]) P3 (fl_mk (by simp) (fun _ => trivial) (fun st => r_two (r_int ht1) (r_int (by omega))) (by decide) (by decide)) wd fun n fs => ⟨.bad, ?_⟩
    unfold b__law_odd k__law_odd_1
    refine sq_nxt (s1 n fs) (sq_nxt (s2 n fs) (sq_ret ?_))
    simp [s__law_odd_3, k__law_odd_2, s__law_odd_4, negD, big]
  by_cases c1 : w = 1
  · subst c1
    refine fin (.fl [.int top, .int 0]) P3 (fl_mk (by simp) (fun _ => trivial) (fun st => r_twoF (r_int ht1) (r_int (by decide))) (by decide) (by decide)) wd fun n fs => ⟨.bad, ?_⟩
    unfold b__law_odd k__law_odd_1
    refine sq_nxt (s1 n fs) (sq_nxt (s2 n fs) (sq_nxt (s3 n fs c0) (sq_ret ?_)))
    simp [s__law_odd_5, k__law_odd_3, s__law_odd_6, big, frz]
  by_cases c2 : w = 2
  · subst c2
    refine fin (.tup [.int top, .int (low + 1), .int 1]) P3 (fl_mk (by simp) (fun _ => trivial) (fun st => rpd_tup (n := 100) (k := 0) fun d hd => by simp at hd; rcases hd with rfl | rfl | rfl <;> exact r_int (by omega)) (by simp) (by decide)) wd fun n fs => ⟨.bad, ?_⟩
    unfold b__law_odd k__law_odd_1
    refine sq_nxt (s1 n fs) (sq_nxt (s2 n fs) (sq_nxt (s3 n fs c0) (sq_nxt (s5 n fs c1) (sq_ret ?_))))
    simp [s__law_odd_7, k__law_odd_4, s__law_odd_8, big]
  by_cases c3 : w = 3
  · subst c3
    let xs : List D := [.tup [.int top, .bl true], .tup [.bl true, .int (low + 1)], .fl [.bl false, .int 1], .tup [.int top, .non]]
    obtain ⟨d, Q, hd, hq, eq⟩ := pick_ok (p := p) (r := r) (xs := xs) h3 (by simp [xs]) (by simp [xs]) (by simp [xs])
    have hf : Fl d := by
      simp [xs] at hd
      rcases hd with rfl | rfl | rfl | rfl
      · exact fl_mk (by simp) (fun _ => trivial) (fun st => r_two (r_int ht1) (r_bl _)) (by decide) (by decide)
      · exact fl_mk (by simp) (fun _ => trivial) (fun st => r_two (r_bl _) (r_int (by omega))) (by decide) (by decide)
      · exact fl_mk (by simp) (fun _ => trivial) (fun st => r_twoF (r_bl _) (r_int (by decide))) (by decide) (by decide)
      · exact fl_mk (by simp) (fun _ => trivial) (fun st => r_two (r_int ht1) r_non) (by decide) (by decide)
    refine fin d Q hf hq fun n fs => ⟨.bad, ?_⟩
    unfold b__law_odd k__law_odd_1
    refine sq_nxt (s1 n fs) (sq_nxt (s2 n fs) (sq_nxt (s3 n fs c0) (sq_nxt (s5 n fs c1) (sq_nxt (s7 n fs c2) (sq_ret ?_)))))
    simp only [xs] at eq
    simp [s__law_odd_9, k__law_odd_5, s__law_odd_10, big, frz, eq]
  by_cases c4 : w = 4
  · subst c4
    let xs : List D := [.tup [.int top], .fl [], .tup [], .tup [.tup [.int top, .int 1], .int 1]]
    obtain ⟨d, Q, hd, hq, eq⟩ := pick_ok (p := p) (r := r) (xs := xs) h3 (by simp [xs]) (by simp [xs]) (by simp [xs])
    have hf : Fl d := by
      simp [xs] at hd
      rcases hd with rfl | rfl | rfl | rfl
      · exact fl_mk (by simp) (fun _ => trivial) (fun st => rpd_tup (n := 100) (k := 0) fun d hd => by simp at hd; subst hd; exact r_int ht1) (by simp) (by decide)
      · exact fl_mk (by simp) (fun _ => trivial) (fun st => rpd_fl (n := 100) (k := 0) fun d hd => by simp at hd) (by decide) (by decide)
      · exact fl_mk (by simp) (fun _ => trivial) (fun st => rpd_tup (n := 100) (k := 0) fun d hd => by simp at hd) (by decide) (by decide)
      · exact fl_mk (by simp) (fun _ => trivial) (fun st => r_two (n := 300) (k := 1) ((r_two (r_int ht1) (r_int (by decide))).mono (by decide) (by decide)) ((r_int (by decide)).mono (by decide) (by decide))) (by decide) (by decide)
    refine fin d Q hf hq fun n fs => ⟨.bad, ?_⟩
    unfold b__law_odd k__law_odd_1
    refine sq_nxt (s1 n fs) (sq_nxt (s2 n fs) (sq_nxt (s3 n fs c0) (sq_nxt (s5 n fs c1) (sq_nxt (s7 n fs c2) (sq_nxt (s9 n fs c3) (sq_ret ?_))))))
    simp only [xs] at eq
    simp [s__law_odd_11, k__law_odd_6, s__law_odd_12, big, frz, eq]
  by_cases c5 : w = 5
  · subst c5
    let xs : List D := [.bl true, .bl false, .non]
    obtain ⟨d, Q, hd, hq, eq⟩ := pick_ok (p := p) (r := r) (xs := xs) h3 (by simp [xs]) (by simp [xs]) (by simp [xs])
    have hf : Fl d := by
      simp [xs] at hd
      rcases hd with rfl | rfl | rfl
      · exact fl_mk (by simp) (fun _ => trivial) (fun st => r_bl _) (by decide) (by decide)
      · exact fl_mk (by simp) (fun _ => trivial) (fun st => r_bl _) (by decide) (by decide)
      · exact fl_mk (by simp) (fun _ => trivial) (fun st => r_non) (by decide) (by decide)
    refine fin d Q hf hq fun n fs => ⟨.bad, ?_⟩
    unfold b__law_odd k__law_odd_1
    refine sq_nxt (s1 n fs) (sq_nxt (s2 n fs) (sq_nxt (s3 n fs c0) (sq_nxt (s5 n fs c1) (sq_nxt (s7 n fs c2) (sq_nxt (s9 n fs c3) (sq_nxt (s11 n fs c4) (sq_ret ?_)))))))
    simp only [xs] at eq
    simp [s__law_odd_13, k__law_odd_7, s__law_odd_14, big, frz, eq]
  by_cases c6 : w = 6
  · subst c6
    obtain ⟨x, hx⟩ : ∃ x, x = Str.ofString (toString top) := ⟨_, rfl⟩
    have rx : ∀ st, RpD false st 1000 0 (.str x) := fun st => by rw [hx]; exact r_num ht1
    have bx : ∀ st, bltD .bstr [.int top] st = .ok (.str x) st := fun st => by rw [hx]; exact bstr_ok ht1
    clear hx
    let xs : List D := [.str x, .str "1/2", .str "", .tup [.str x, .int 2]]
    obtain ⟨d, Q, hd, hq, eq⟩ := pick_ok (p := p) (r := r) (xs := xs) h3 (by simp [xs]) (by simp [xs]) (by simp [xs])
    have hf : Fl d := by
      simp [xs] at hd
      rcases hd with rfl | rfl | rfl | rfl
      · exact fl_mk (by simp) (fun _ => trivial) (fun st => rx st) (by decide) (by decide)
      · exact fl_mk (by simp) (fun _ => trivial) (fun st => rpd_text (n := 3) (by decide +kernel) (by decide +kernel)) (by decide) (by decide)
      · exact fl_mk (by simp) (fun _ => trivial) (fun st => rpd_text (n := 3) (by decide +kernel) (by decide +kernel)) (by decide) (by decide)
      · exact fl_mk (by simp) (fun _ => trivial) (fun st => r_two (rx st) ((r_int (by decide)).mono (by decide) (by decide))) (by decide) (by decide)
    refine fin d Q hf hq fun n fs => ⟨.bad, ?_⟩
    unfold b__law_odd k__law_odd_1
    refine sq_nxt (s1 n fs) (sq_nxt (s2 n fs) (sq_nxt (s3 n fs c0) (sq_nxt (s5 n fs c1) (sq_nxt (s7 n fs c2) (sq_nxt (s9 n fs c3) (sq_nxt (s11 n fs c4) (sq_nxt (s13 n fs c5) (sq_ret ?_))))))))
    simp only [xs] at eq
    simp [s__law_odd_15, k__law_odd_8, s__law_odd_16, big, frz, eq, bx]
  have s17 : ∀ n fs (z : SRes), evS (callN p (n + 2)) fs none s__law_odd_17 [some (.loc 0), some (.int top), some (.int low), some (.int w)] (penC P3 :: r) = z → evSs (callN p (n + 2)) fs none b__law_odd [some (.loc 0), none, none, none] (penC P :: r) = z.thn fun ρ1 st1 => .nxt ρ1 st1 := fun n fs z hz => by
    unfold b__law_odd k__law_odd_1
    refine sq_nxt (s1 n fs) (sq_nxt (s2 n fs) (sq_nxt (s3 n fs c0) (sq_nxt (s5 n fs c1) (sq_nxt (s7 n fs c2) (sq_nxt (s9 n fs c3) (sq_nxt (s11 n fs c4) (sq_nxt (s13 n fs c5) (sq_nxt (s15 n fs c6) ?_))))))))
    rw [ev_ss1, hz]
    rfl
  by_cases c7 : w = 7
  · refine ⟨.loc (r.length + 1), [dicC top low], P3, .inr ⟨rfl, top, low, rfl, ht1, by omega⟩, fun st hs => ?_, wd, fun n fs => ?_⟩
    · have hs := hs.resolve_left (by simp)
      have e : st[r.length + 1]? = some (dicC top low) := hs.2
      exact ⟨⟨_, e⟩, true, (rpd_dic1 (m := 64) e (by decide) ht1 (by omega) (by decide)).mono (by decide) (by decide)⟩
    · have hr : retF (penC P :: r) (penC P3 :: (r ++ [dicC top low])) (.loc (r.length + 1)) = .ok (.loc (r.length + 1)) (penC P3 :: (r ++ [dicC top low])) := by
        have e : (penC P3 :: (r ++ [dicC top low]))[r.length + 1]? = some (dicC top low) := by simp
        have e' : frzD (penC P :: r).length (penC P3 :: (r ++ [dicC top low])) 9 (.loc (r.length + 1)) = .loc (r.length + 1) := by
          simp only [frzD, e]
          split <;> rfl
        unfold retF
        rw [e', if_neg (by simp; omega)]
        unfold gc
        rw [if_neg (by simp; omega)]
      rw [call_fn cf (by decide) rfl]
      show retD _ (evSs (callN p (n + 2)) fs none b__law_odd [some (.loc 0), none, none, none] (penC P :: r)) = _
      rw [s17 n fs (.ret (.loc (r.length + 1)) (penC P3 :: (r ++ [dicC top low]))) (by simp [s__law_odd_17, c7, keyD, putK, findK, ofKey]; rfl)]
      exact hr
  · refine fin (.tup [.int top, .int low]) P3 (fl_mk (by simp) (fun _ => trivial) (fun st => r_two (r_int ht1) (r_int (by omega))) (by decide) (by decide)) wd fun n fs => ⟨.bad, ?_⟩
    rw [s17 n fs (.ret (.tup [.int top, .int low]) (penC P3 :: r)) (by simp [s__law_odd_17, c7, big])]
    rfl
end
end MM.K02
end

section
set_option Elab.async false
set_option linter.all false
set_option maxRecDepth 100000
set_option maxHeartbeats 4000000
set_option exponentiation.threshold 200000
namespace MM.K02
open PySem MM MM.F MM.Sh
/-! ### faults -/
section
variable {p : Str → Option Fn} {n : Nat} {fs : List Fr} {st : Store} {ρ : Env} {e : E}
theorem fault_ratio [H__law_fault_v2 p] {x : Str} {d : D} (he : evE (callN p n) fs none e ρ st = .exc (badRatio d) st) (hr : bltD .brepr [d] st = .ok (.str x) st) :
    callN p (n + 2) ((ρ, some e) :: fs) "_law_fault" [] st = .ok (.tup [.str "ratio", .str x, .bl false]) st := by
  have hl : callN p (n + 1) ((ρ, some e) :: fs) Str.empty [] st = .exc (badRatio d) st := by
    rw [call_lam, he]
    simp
  have ht : evS (callN p (n + 1)) ((ρ, some e) :: fs) none s__law_fault_v2_1 [none, none] st = .ret (.tup [.str "ratio", .str x, .bl false]) st := by
    unfold s__law_fault_v2_1
    rw [ev_try]
    have hb : evSs (callN p (n + 1)) ((ρ, some e) :: fs) none k__law_fault_v2_2 [none, none] st = .exc (badRatio d) [none, none] st := by
      simp [k__law_fault_v2_2, s__law_fault_v2_2, hl]
    rw [hb]
    have q1 : ¬ (Str.ofString "BadRatio" = Str.ofString "BadNumber") := by decide +kernel
    simp [evHs, evE, badRatio, k__law_fault_v2_4, s__law_fault_v2_4, lookF, hr, big, SRes.clean, q1]
  rw [call_hi (H__law_fault_v2.h (p := p)) (by decide) rfl]
  simp [b__law_fault_v2, k__law_fault_v2_1, ht]
theorem fault_num [H__law_fault_v2 p] {what : Str} (he : evE (callN p n) fs none e ρ st = .exc (badNumber what (.int 0)) st) :
    callN p (n + 2) ((ρ, some e) :: fs) "_law_fault" [] st = .ok (.tup [.str "number", .str what, .str "0"]) st := by
  have hl : callN p (n + 1) ((ρ, some e) :: fs) Str.empty [] st = .exc (badNumber what (.int 0)) st := by
    rw [call_lam, he]
    simp
  have hr : bltD .brepr [.int 0] st = .ok (.str "0") st := repr_of (x := .int 0) rfl (by decide +kernel)
  have ht : evS (callN p (n + 1)) ((ρ, some e) :: fs) none s__law_fault_v2_1 [none, none] st = .ret (.tup [.str "number", .str what, .str "0"]) st := by
    unfold s__law_fault_v2_1
    rw [ev_try]
    have hb : evSs (callN p (n + 1)) ((ρ, some e) :: fs) none k__law_fault_v2_2 [none, none] st = .exc (badNumber what (.int 0)) [none, none] st := by
      simp [k__law_fault_v2_2, s__law_fault_v2_2, hl]
    rw [hb]
    have q1 : ¬ (Str.ofString "BadNumber" = Str.ofString "BadRatio") := by decide +kernel
    have q2 : ¬ (Str.ofString "what" = Str.ofString "number") := by decide +kernel
    simp [evHs, badNumber, k__law_fault_v2_3, s__law_fault_v2_3, lookF, hr, big, SRes.clean, q1, q2]
  rw [call_hi (H__law_fault_v2.h (p := p)) (by decide) rfl]
  simp [b__law_fault_v2, k__law_fault_v2_1, ht]
end
/-! ### the law, statement by statement -/
section
variable {fs : List Fr} {ρ : Env} {P : Pen} {r g : Store} {c : Nat} {odd left right other : D} {one two : Rt}
theorem gc_laid (L : Laid r g odd) (P P' : Pen) : gc (penC P :: r) (penC P' :: (r ++ g)) odd.lim = penC P' :: (r ++ g) := by
  rcases L with ⟨l, rfl⟩ | ⟨rfl, i, j, rfl, _⟩
  · rw [List.append_nil]; exact gc_pen P P' r _
  · unfold gc
    rw [if_neg (by simp; omega)]
theorem st_1 {ns : List Int} (hz : ns.length ≤ 63) (h0 : ρ[0]? = some (some (.fl (ns.map .int)))) : ∃ ρ1 st1, evS (callN pr 30) fs none s_law_v2_1 ρ [] = .nxt ρ1 st1 ∧ ∃ P, ρ1 = ρ.set 1 (some (.loc 0)) ∧ st1 = [penC P] ∧ Pn 1000000000 P := by
  obtain ⟨P, h, e⟩ := pen_ok (p := pr) hz
  have hg : gc [] [penC P] 1 = [penC P] := by unfold gc; rw [if_neg (by simp)]
  exact ⟨_, _, by simp [s_law_v2_1, h0, e, hg], P, rfl, rfl, h⟩
theorem st_3 (h1 : ρ[1]? = some (some (.loc 0))) (hP : Pn (c + 4) P) : ∃ ρ1 st1, evS (callN pr 30) fs none s_law_v2_3 ρ (penC P :: r) = .nxt ρ1 st1 ∧ ∃ odd g P', ρ1 = ρ.set 3 (some odd) ∧ st1 = penC P' :: (r ++ g) ∧ (∀ Q r', Odd (penC Q :: (r ++ g ++ r')) odd) ∧ Pn c P' := by
  obtain ⟨d, g, P', L, O, p', e⟩ := odd_ok (p := pr) (r := r) hP
  refine ⟨_, _, ?_, d, g, P', rfl, rfl, fun Q r' => O _ ?_, p'⟩
  · have e' : ∀ fs, callN pr 30 fs "_law_odd" [.loc 0] (penC P :: r) = .ok d (penC P' :: (r ++ g)) := fun fs => e 27 fs
    simp [s_law_v2_3, h1, e', gc_laid L]
  · rcases L with ⟨l, _⟩ | ⟨l, i, j, rfl, _⟩
    · exact .inl l
    · exact .inr ⟨l, by simp⟩
theorem st_4 (h1 : ρ[1]? = some (some (.loc 0))) (hP : Pn (c + 8) P) : ∃ ρ1 st1, evS (callN pr 30) fs none s_law_v2_4 ρ (penC P :: r) = .nxt ρ1 st1 ∧ ∃ one two P', ρ1 = (ρ.set 4 (some (rt one))).set 5 (some (rt two)) ∧ st1 = penC P' :: r ∧ Red 41 one ∧ Red 41 two ∧ Pn c P' := by
  obtain ⟨q, P1, r1, p1, e1⟩ := ratio_ok (p := pr) (r := r) (c := c + 4) hP
  obtain ⟨q2, P2, r2, p2, e2⟩ := ratio_ok (p := pr) (r := r) (c := c) p1
  refine ⟨_, _, ?_, q, q2, P2, rfl, rfl, r1, r2, p2⟩
  have e1' : ∀ fs, callN pr 30 fs "_law_ratio" [.loc 0] (penC P :: r) = .ok (rt q) (penC P1 :: r) := fun fs => e1 27 fs
  have e2' : ∀ fs, callN pr 30 fs "_law_ratio" [.loc 0] (penC P1 :: r) = .ok (rt q2) (penC P2 :: r) := fun fs => e2 27 fs
  simp [s_law_v2_4, h1, e1', e2', asgN]
theorem st_5 (h1 : ρ[1]? = some (some (.loc 0))) (h4 : ρ[4]? = some (some (rt one))) (h5 : ρ[5]? = some (some (rt two))) (r1 : Red 41 one) (r2 : Red 41 two) (hP : Pn (c + 1) P) : ∃ ρ1 st1, evS (callN pr 30) fs none s_law_v2_5 ρ (penC P :: r) = .nxt ρ1 st1 ∧ ∃ two P', ρ1 = ρ.set 5 (some (rt two)) ∧ st1 = penC P' :: r ∧ Red 41 two ∧ Pn c P' := by
  obtain ⟨d, P1, _, _, p1, e1⟩ := draw_ok (p := pr) (r := r) (m := 4) hP (by decide) (by decide)
  have e1' : ∀ fs, callN pr 30 fs "_law_draw" [.loc 0, .int 4] (penC P :: r) = .ok (.int d) (penC P1 :: r) := fun fs => e1 29 fs
  by_cases hd : d = 0
  · exact ⟨_, _, by simp [s_law_v2_5, h1, e1', hd, k_law_v2_3, s_law_v2_6, h4], one, P1, rfl, rfl, r1, p1⟩
  · refine ⟨ρ, _, by simp [s_law_v2_5, h1, e1', hd], two, P1, ?_, rfl, r2, p1⟩
    obtain ⟨hlt, he⟩ := List.getElem?_eq_some_iff.mp h5
    rw [← he]
    exact (List.set_getElem_self hlt).symm
theorem st_7 (h1 : ρ[1]? = some (some (.loc 0))) (h4 : ρ[4]? = some (some (rt one))) (h5 : ρ[5]? = some (some (rt two))) (r1 : Red 41 one) (r2 : Red 41 two) (hP : Pn (c + 4) P) : ∃ ρ1 st1, evS (callN pr 30) fs none s_law_v2_7 ρ (penC P :: r) = .nxt ρ1 st1 ∧ ∃ left right P', ρ1 = (ρ.set 6 (some left)).set 7 (some right) ∧ st1 = penC P' :: r ∧ RatFor left one ∧ RatFor right two ∧ Pn c P' := by
  obtain ⟨a, P1, F, p1, e1⟩ := loose_ok (p := pr) (r := r) (c := c + 2) hP r1 (by decide)
  obtain ⟨b, P2, G, p2, e2⟩ := loose_ok (p := pr) (r := r) (c := c) p1 r2 (by decide)
  have e1' : ∀ fs, callN pr 30 fs "_law_loose" [.loc 0, rt one] (penC P :: r) = .ok a (penC P1 :: r) := fun fs => e1 28 fs
  have e2' : ∀ fs, callN pr 30 fs "_law_loose" [.loc 0, rt two] (penC P1 :: r) = .ok b (penC P2 :: r) := fun fs => e2 28 fs
  exact ⟨_, _, by simp [s_law_v2_7, h1, h4, h5, e1', e2', asgN, big, F.lim, G.lim], a, b, P2, rfl, rfl, F, G, p2⟩
theorem st_8 {st : Store} (hl : 8 < ρ.length) (h3 : ρ[3]? = some (some odd)) (h6 : ρ[6]? = some (some left)) (h7 : ρ[7]? = some (some right)) (O : Okd st odd) (F : RatFor left one) (G : RatFor right two) : ∃ ρ1 st1, evS (callN pr 30) fs none s_law_v2_8 ρ st = .nxt ρ1 st1 ∧ ∃ x, ρ1 = ρ.set 8 x ∧ st1 = st := by
  have body : ∀ d, Okd st d → evSs (callN pr 30) fs none k_law_v2_4 (ρ.set 8 (some d)) st = .nxt (ρ.set 8 (some d)) st := fun d hd => by
    have g8 : (ρ.set 8 (some d))[8]? = some (some d) := List.getElem?_set_self hl
    have g1 : ∀ fs, callN pr 30 fs "is_ratio" [d] st = .ok (.bl (ratioB d)) st := fun fs => ratio_is (p := pr) (n := 28) hd
    have g2 : ∀ fs, callN pr 30 fs "_law_is_ratio" [d] st = .ok (.bl (ratioB d)) st := fun fs => law_is_ratio_ok (p := pr) (n := 28) hd
    have c0 := cmp_selfn (pl_bl (st := st) (ratioB d)) (by decide)
    have ty : isTys [.bool] (.bl (ratioB d)) st = some true := rfl
    simp [k_law_v2_4, s_law_v2_9, g8, g1, g2, c0, ty]
  obtain ⟨q, _, e⟩ := items_loop (b := fun ρ st => evSs (callN pr 30) fs none k_law_v2_4 ρ st) (i := 8) (st := st) [odd, left, right] ρ (by simp) fun q hq => by
    simp at hq
    rcases hq with rfl | rfl | rfl
    · exact body _ O
    · exact body _ (F.okd _)
    · exact body _ (G.okd _)
  exact ⟨_, _, by simpa [s_law_v2_8, h3, h6, h7, big, srcOf] using e, _, rfl, rfl⟩
theorem st_11 {st : Store} (h4 : ρ[4]? = some (some (rt one))) (h6 : ρ[6]? = some (some left)) (r1 : Red 41 one) (F : RatFor left one) : ∃ ρ1 st1, evS (callN pr 30) fs none s_law_v2_11 ρ st = .nxt ρ1 st1 ∧ ρ1 = ρ ∧ st1 = st := by
  have g1 : ∀ fs, callN pr 30 fs "told" [left] st = .ok (rt one) st := fun fs => told_for (p := pr) (n := 27) F
  have g2 : ∀ fs, callN pr 30 fs "_law_is_pair" [rt one] st = .ok (.bl true) st := fun fs => is_pair_ok (p := pr) (n := 28) r1
  exact ⟨_, _, by simp [s_law_v2_11, h4, h6, g1, g2], rfl, rfl⟩
theorem st_13 {st : Store} (hl : 10 < ρ.length) (h4 : ρ[4]? = some (some (rt one))) (h5 : ρ[5]? = some (some (rt two))) (h6 : ρ[6]? = some (some left)) (h7 : ρ[7]? = some (some right)) (r1 : Red 41 one) (r2 : Red 41 two) (F : RatFor left one) (G : RatFor right two) : ∃ ρ1 st1, evS (callN pr 30) fs none s_law_v2_13 ρ st = .nxt ρ1 st1 ∧ ∃ x y, ρ1 = (ρ.set 9 x).set 10 y ∧ st1 = st := by
  have a1 : ∀ fs, callN pr 30 fs "plus" [left, right] st = .ok (rt (addQ one two)) st := fun fs => plus_ok (p := pr) (n := 26) F G r1 r2
  have a2 : ∀ fs, callN pr 30 fs "_law_add" [rt one, rt two] st = .ok (rt (addQ one two)) st := fun fs => lawadd_ok (p := pr) (n := 27) r1 r2
  have a3 : ∀ fs, callN pr 30 fs "minus" [left, right] st = .ok (rt (subQ one two)) st := fun fs => minus_ok (p := pr) (n := 26) F G r1 r2
  have a4 : ∀ fs, callN pr 30 fs "_law_sub" [rt one, rt two] st = .ok (rt (subQ one two)) st := fun fs => lawsub_ok (p := pr) (n := 27) r1 r2
  have a5 : ∀ fs, callN pr 30 fs "times" [left, right] st = .ok (rt (mulQt one two)) st := fun fs => times_ok (p := pr) (n := 26) F G r1 r2
  have a6 : ∀ fs, callN pr 30 fs "_law_mul" [rt one, rt two] st = .ok (rt (mulQt one two)) st := fun fs => lawmul_ok (p := pr) (n := 27) r1 r2
  have body : ∀ q, Red 90 q → evSs (callN pr 30) fs none k_law_v2_7 ((ρ.set 9 (some (rt q))).set 10 (some (rt q))) st = .nxt ((ρ.set 9 (some (rt q))).set 10 (some (rt q))) st := fun q hq => by
    have g9 : ((ρ.set 9 (some (rt q))).set 10 (some (rt q)))[9]? = some (some (rt q)) := by rw [List.getElem?_set_ne (by decide)]; exact List.getElem?_set_self (by omega)
    have g10 : ((ρ.set 9 (some (rt q))).set 10 (some (rt q)))[10]? = some (some (rt q)) := List.getElem?_set_self (by simpa using hl)
    have g2 : ∀ fs, callN pr 30 fs "_law_is_pair" [rt q] st = .ok (.bl true) st := fun fs => is_pair_ok (p := pr) (n := 28) hq
    simp [k_law_v2_7, s_law_v2_14, g9, g10, g2]
  obtain ⟨q, _, e⟩ := pairs_loop (b := fun ρ st => evSs (callN pr 30) fs none k_law_v2_7 ρ st) (i := 9) (j := 10) (by decide) (st := st) [(rt (addQ one two), rt (addQ one two)), (rt (subQ one two), rt (subQ one two)), (rt (mulQt one two), rt (mulQt one two))] ρ (by omega) hl (by simp) fun q hq => by
    simp at hq
    rcases hq with rfl | rfl | rfl
    · exact body _ ((addQ_red r1 r2).mono (by decide))
    · exact body _ ((subQ_red r1 r2).mono (by decide))
    · exact body _ ((mulQ_red r1 r2).mono (by decide))
  have fz := frz_new0 (st := st) (xs := [.tup [rt (addQ one two), rt (addQ one two)], .tup [rt (subQ one two), rt (subQ one two)], .tup [rt (mulQt one two), rt (mulQt one two)]]) (by simp)
  exact ⟨_, _, by simpa [s_law_v2_13, h4, h5, h6, h7, big, srcOf, a1, a2, a3, a4, a5, a6, fz] using e, _, _, rfl, rfl⟩
theorem pl_rt {st : Store} (q : Rt) : Pl st 1 (rt q) := pl_tup fun d hd => by
  simp at hd
  rcases hd with rfl | rfl <;> exact pl_int _
theorem pl_three {st : Store} {a b : Str} {c : D} (ha : PyData.strOk a = true) (hb : PyData.strOk b = true) (hc : Pl st 0 c) : Pl st 1 (.tup [.str a, .str b, c]) := pl_tup fun d hd => by
  simp at hd
  rcases hd with rfl | rfl | rfl
  · exact pl_str ha
  · exact pl_str hb
  · exact hc
theorem st_16 {st : Store} (h4 : ρ[4]? = some (some (rt one))) (h5 : ρ[5]? = some (some (rt two))) (h6 : ρ[6]? = some (some left)) (h7 : ρ[7]? = some (some right)) (r1 : Red 41 one) (r2 : Red 41 two) (F : RatFor left one) (G : RatFor right two) : ∃ ρ1 st1, evS (callN pr 30) fs none s_law_v2_16 ρ st = .nxt ρ1 st1 ∧ ρ1 = ρ ∧ st1 = st := by
  by_cases h0 : two.1 = 0
  · have he : evE (callN pr 28) fs none (.call "share_of" (.cons (.v 6) (.cons (.v 7) .nil))) ρ st = .exc (badNumber "quotient" (.int 0)) st := by
      simp only [ev_call, ev_es1, ev_es0, ev_v, h6, h7, Res.bind_ok]
      exact share_zero (p := pr) (n := 24) F G h0
    have hf := fault_num (p := pr) (n := 28) he
    have c0 := cmp_selfn (pl_three (st := st) (a := "number") (b := "quotient") (c := .str "0") (by decide +kernel) (by decide +kernel) (pl_str (by decide +kernel))) (by decide)
    exact ⟨_, _, by simp [s_law_v2_16, h5, h0, k_law_v2_9, s_law_v2_17, hf, big, noExc, c0], rfl, rfl⟩
  · have a1 : ∀ fs, callN pr 30 fs "share_of" [left, right] st = .ok (rt (divQ one two)) st := fun fs => share_ok (p := pr) (n := 26) F G r1 r2 h0
    have a2 : ∀ fs, callN pr 30 fs "_law_div" [rt one, rt two] st = .ok (rt (divQ one two)) st := fun fs => lawdiv_ok (p := pr) (n := 27) r1 r2 h0
    have g2 : ∀ fs, callN pr 30 fs "_law_is_pair" [rt (divQ one two)] st = .ok (.bl true) st := fun fs => is_pair_ok (p := pr) (n := 28) (divQ_red r1 r2 h0)
    exact ⟨_, _, by simp [s_law_v2_16, h4, h5, h6, h7, h0, k_law_v2_11, s_law_v2_19, a1, a2, g2], rfl, rfl⟩
theorem st_21 {st : Store} (hl : 10 < ρ.length) (h4 : ρ[4]? = some (some (rt one))) (h5 : ρ[5]? = some (some (rt two))) (h6 : ρ[6]? = some (some left)) (h7 : ρ[7]? = some (some right)) (r1 : Red 41 one) (r2 : Red 41 two) (F : RatFor left one) (G : RatFor right two) : ∃ ρ1 st1, evS (callN pr 30) fs none s_law_v2_21 ρ st = .nxt ρ1 st1 ∧ ∃ x y, ρ1 = (ρ.set 9 x).set 10 y ∧ st1 = st := by
  have a1 : ∀ fs, callN pr 30 fs "less" [left, right] st = .ok (.bl (lessQ one two)) st := fun fs => lessr_ok (p := pr) (n := 26) F G r1 r2
  have a2 : ∀ fs, callN pr 30 fs "_law_less" [rt one, rt two] st = .ok (.bl (lessQ one two)) st := fun fs => less_ok (p := pr) (n := 29) r1 r2
  have a3 : ∀ fs, callN pr 30 fs "same" [left, right] st = .ok (.bl (decide (one = two))) st := fun fs => same_ok (p := pr) (n := 26) F G
  have body : ∀ q : Bool, evSs (callN pr 30) fs none k_law_v2_13 ((ρ.set 9 (some (.bl q))).set 10 (some (.bl q))) st = .nxt ((ρ.set 9 (some (.bl q))).set 10 (some (.bl q))) st := fun q => by
    have g9 : ((ρ.set 9 (some (.bl q))).set 10 (some (.bl q)))[9]? = some (some (.bl q)) := by rw [List.getElem?_set_ne (by decide)]; exact List.getElem?_set_self (by omega)
    have g10 : ((ρ.set 9 (some (.bl q))).set 10 (some (.bl q)))[10]? = some (some (.bl q)) := List.getElem?_set_self (by simpa using hl)
    have c0 := cmp_selfn (pl_bl (st := st) q) (by decide)
    have ty : isTys [.bool] (.bl q) st = some true := rfl
    simp [k_law_v2_13, s_law_v2_22, g9, g10, c0, ty]
  obtain ⟨q, _, e⟩ := pairs_loop (b := fun ρ st => evSs (callN pr 30) fs none k_law_v2_13 ρ st) (i := 9) (j := 10) (by decide) (st := st) [(.bl (lessQ one two), .bl (lessQ one two)), (.bl (decide (one = two)), .bl (decide (one = two)))] ρ (by omega) hl (by simp) fun q hq => by
    simp at hq
    rcases hq with rfl | rfl
    · exact body _
    · exact body _
  have fz := frz_new0 (st := st) (xs := [.tup [.bl (lessQ one two), .bl (lessQ one two)], .tup [.bl (decide (one = two)), .bl (decide (one = two))]]) (by simp)
  exact ⟨_, _, by simpa [s_law_v2_21, h4, h5, h6, h7, big, srcOf, a1, a2, a3, fz] using e, _, _, rfl, rfl⟩
theorem st_26 (h1 : ρ[1]? = some (some (.loc 0))) (h3 : ρ[3]? = some (some odd)) (O : ∀ Q r', Odd (penC Q :: (r ++ r')) odd) (hP : Pn (c + 4) P) : ∃ ρ1 st1, evS (callN pr 30) fs none s_law_v2_26 ρ (penC P :: r) = .nxt ρ1 st1 ∧ ∃ other x g P', ρ1 = (ρ.set 11 (some other)).set 12 (some (.tup [.str "ratio", .str x, .bl false])) ∧ st1 = penC P' :: (r ++ g) ∧ bltD .brepr [odd] st1 = .ok (.str x) st1 ∧ PyData.strOk x = true ∧ Pn c P' := by
  obtain ⟨d, g, P', L, _, p', e⟩ := odd_ok (p := pr) (r := r) hP
  have e' : ∀ fs, callN pr 30 fs "_law_odd" [.loc 0] (penC P :: r) = .ok d (penC P' :: (r ++ g)) := fun fs => e 27 fs
  obtain ⟨b, rp⟩ := (O P' g).rp
  obtain ⟨x, hx, sx⟩ := repr_rp rp (by decide) (by decide)
  exact ⟨_, _, by simp [s_law_v2_26, h1, h3, e', hx, big, asgN, gc_laid L], d, x, g, P', rfl, rfl, hx, sx, p'⟩
theorem st_27 {st : Store} {x : Str} (hl : 13 < ρ.length) (h3 : ρ[3]? = some (some odd)) (h6 : ρ[6]? = some (some left)) (h7 : ρ[7]? = some (some right)) (h11 : ρ[11]? = some (some other)) (h12 : ρ[12]? = some (some (.tup [.str "ratio", .str x, .bl false]))) (O : Okd st odd) (hb : ratioB odd = false) (hx : bltD .brepr [odd] st = .ok (.str x) st) (sx : PyData.strOk x = true) (F : RatFor left one) :
    ∃ ρ1 st1, evS (callN pr 30) fs none s_law_v2_27 ρ st = .nxt ρ1 st1 ∧ ρ1 = ρ.set 13 none ∧ st1 = st := by
  have hlk : ∀ i, i ≠ 13 → (ρ.set 13 none)[i]? = ρ[i]? := fun i hi => List.getElem?_set_ne (by omega)
  have k3 := (hlk 3 (by decide)).trans h3
  have k6 := (hlk 6 (by decide)).trans h6
  have k7 := (hlk 7 (by decide)).trans h7
  have k11 := (hlk 11 (by decide)).trans h11
  have k12 := (hlk 12 (by decide)).trans h12
  have go : ∀ e, evE (callN pr 28) fs none e (ρ.set 13 none) st = .exc (badRatio odd) st → stepL (callN pr 30) fs "_law_fault" .NotEq (fun ρ st => evE (callN pr 30) fs none (.v 12) ρ st) (fun ρ st => evSs (callN pr 30) fs none k_law_v2_16 ρ st) e (ρ.set 13 none) st = .nxt (ρ.set 13 none) st := fun e he =>
    lam_eq (v := .tup [.str "ratio", .str x, .bl false]) (fault_ratio (p := pr) (n := 28) he hx) (by simp only [ev_v, k12]) (pl_three (by decide +kernel) sx (pl_bl _)) (by decide)
  refine lams_st hl ⟨go _ ?_, go _ ?_, go _ ?_, go _ ?_, go _ ?_, go _ ?_, go _ ?_, go _ ?_, go _ ?_, go _ ?_, trivial⟩
  · simp only [ev_call, ev_es1, ev_es0, ev_v, k3, Res.bind_ok]
    exact told_no (p := pr) (n := 25) O hb
  · simp only [ev_call, ev_es1, ev_es0, ev_v, k3, k11, Res.bind_ok]
    exact plus_no1 (p := pr) (n := 24) O hb
  · simp only [ev_call, ev_es1, ev_es0, ev_v, k3, k7, Res.bind_ok]
    exact minus_no1 (p := pr) (n := 24) O hb
  · simp only [ev_call, ev_es1, ev_es0, ev_v, k3, k6, Res.bind_ok]
    exact times_no2 (p := pr) (n := 24) O hb F
  · simp only [ev_call, ev_es1, ev_es0, ev_v, k3, Res.bind_ok, ev_con]
    exact share_no1 (p := pr) (n := 24) O hb
  · simp only [ev_call, ev_es1, ev_es0, ev_v, k3, k6, Res.bind_ok]
    exact share_no2 (p := pr) (n := 24) O hb F
  · simp only [ev_call, ev_es1, ev_es0, ev_v, k3, k11, Res.bind_ok]
    exact less_no1 (p := pr) (n := 24) O hb
  · simp only [ev_call, ev_es1, ev_es0, ev_v, k3, k6, Res.bind_ok]
    exact less_no2 (p := pr) (n := 24) O hb F
  · simp only [ev_call, ev_es1, ev_es0, ev_v, k3, k11, Res.bind_ok]
    exact same_no1 (p := pr) (n := 24) O hb
  · simp only [ev_call, ev_es1, ev_es0, ev_v, k3, k6, Res.bind_ok]
    exact same_no2 (p := pr) (n := 24) O hb F
end
/-- what stands between laps -/
def Inv (ns : List Int) (k : Nat) (ρ : Env) (st : Store) : Prop := ∃ (P : Pen) (r : Store) (a2 a3 a4 a5 a6 a7 a8 a9 a10 a11 a12 a13 : Option D), ρ = [some (.fl (ns.map .int)), some (.loc 0), a2, a3, a4, a5, a6, a7, a8, a9, a10, a11, a12, a13] ∧ st = penC P :: r ∧ Pn (1000 * (5 - k)) P
theorem lap {fs : List Fr} {ns : List Int} {k : Nat} {y : D} {ρ : Env} {st : Store} (hk : k < 5) (h : Inv ns k ρ st) : Go (Inv ns (k + 1)) (evSs (callN pr 30) fs none k_law_v2_2 (ρ.set 2 (some y)) st) := by
  obtain ⟨P, r, a2, a3, a4, a5, a6, a7, a8, a9, a10, a11, a12, a13, rfl, rfl, hP⟩ := h
  have p0 : Pn (1000 * (5 - (k + 1)) + 4 + 4 + 1 + 8 + 4) P := hP.mono (by omega)
  unfold k_law_v2_2
  refine go_st (st_3 rfl p0) ?_
  rintro _ _ ⟨odd, g, P, rfl, rfl, O, p1⟩
  refine go_st (st_4 rfl p1) ?_
  rintro _ _ ⟨one, two0, P, rfl, rfl, r1, r20, p2⟩
  refine go_st (st_5 rfl rfl rfl r1 r20 p2) ?_
  rintro _ _ ⟨two, P, rfl, rfl, r2, p3⟩
  refine go_st (st_7 rfl rfl rfl r1 r2 p3) ?_
  rintro _ _ ⟨left, right, P, rfl, rfl, F, G, p4⟩
  have O1 := (O P []).ok
  rw [List.append_nil] at O1
  refine go_st (st_8 (by simp) rfl rfl rfl O1 F G) ?_
  rintro _ _ ⟨x8, rfl, rfl⟩
  refine go_st (st_11 rfl rfl r1 F) ?_
  rintro _ _ ⟨rfl, rfl⟩
  refine go_st (st_13 (by simp) rfl rfl rfl rfl r1 r2 F G) ?_
  rintro _ _ ⟨x9, x10, rfl, rfl⟩
  refine go_st (st_16 rfl rfl rfl rfl r1 r2 F G) ?_
  rintro _ _ ⟨rfl, rfl⟩
  refine go_st (st_21 (by simp) rfl rfl rfl rfl r1 r2 F G) ?_
  rintro _ _ ⟨y9, y10, rfl, rfl⟩
  have g24 : ∀ fs, callN pr 30 fs "_law_is_ratio" [odd] (penC P :: (r ++ g)) = .ok (.bl (ratioB odd)) (penC P :: (r ++ g)) := fun fs => law_is_ratio_ok (p := pr) (n := 28) O1
  cases hb : ratioB odd with
  | true =>
    refine go_cnt (ρ1 := _) (st1 := penC P :: (r ++ g)) (by simp [s_law_v2_24, g24, hb, k_law_v2_15, s_law_v2_25]; rfl) ?_
    exact ⟨P, r ++ g, _, _, _, _, _, _, _, _, _, _, _, _, rfl, rfl, p4.mono (by omega)⟩
  | false =>
    refine go_st (Q := fun ρ1 st1 => ρ1 = _ ∧ st1 = penC P :: (r ++ g)) ⟨_, _, by simp [s_law_v2_24, g24, hb]; rfl, rfl, rfl⟩ ?_
    rintro _ _ ⟨rfl, rfl⟩
    refine go_st (st_26 rfl rfl O p4) ?_
    rintro _ _ ⟨other, x, g2, P, rfl, rfl, hx, sx, p5⟩
    refine go_st (st_27 (by simp) rfl rfl rfl rfl rfl (O P g2).ok hb hx sx F) ?_
    rintro _ _ ⟨rfl, rfl⟩
    exact go_nil ⟨P, r ++ g ++ g2, _, _, _, _, _, _, _, _, _, _, _, _, rfl, rfl, p5⟩
/-- the whole plain law -/
theorem law_ok (ns : List Int) (hz : ns.length ≤ 63) : ∃ st', callN pr 31 [([], none)] "law" [.fl (ns.map D.int)] [] = .ok (.bl true) st' := by
  rw [call_fn (H_law_v2.h (p := pr)) (by decide) rfl]
  suffices h : Tr (evSs (callN pr 30) [([], none)] none b_law_v2 ([D.fl (ns.map D.int)].map some ++ List.replicate (14 - 1) none) []) by
    obtain ⟨st', e⟩ := h
    rw [e, retD_ret]
    exact ret_true _ _
  unfold b_law_v2 k_law_v2_1
  refine tr_st (st_1 hz rfl) ?_
  rintro _ _ ⟨P, rfl, rfl, p1⟩
  obtain ⟨ρ', st', e, _⟩ := forL_inv (b := fun ρ st => evSs (callN pr 30) [([], none)] none k_law_v2_2 ρ st) (t := .n 2) (enc := D.int) (ys := [0, 1, 2, 3, 4]) (Inv ns) (fun k y ρ st hy hi => ⟨_, rfl, by
    have hk : k < 5 := by
      have := (List.getElem?_eq_some_iff.mp hy).1
      simpa using this
    obtain ⟨ρ', st', e, q⟩ := lap (y := .int y) hk hi
    exact ⟨ρ', st', e, q⟩⟩) (ρ := [some (.fl (ns.map .int)), some (.loc 0), none, none, none, none, none, none, none, none, none, none, none, none]) (st := [penC P]) ⟨P, [], none, none, none, none, none, none, none, none, none, none, none, none, rfl, rfl, p1.mono (by decide)⟩
  refine tr_st (Q := fun _ _ => True) ⟨ρ', st', ?_, trivial⟩ fun ρ1 st1 _ => ⟨_, sq_ret (by simp [s_law_v2_29]; rfl)⟩
  have hr : evIt (callN pr 30) [([], none)] none (.rng1 (.con (.int 5))) [some (.fl (ns.map .int)), some (.loc 0), none, none, none, none, none, none, none, none, none, none, none, none] [penC P] = .ok ([.int 0, .int 1, .int 2, .int 3, .int 4], []) [penC P] := by
    rw [ev_it_r1, ev_con, Res.bind_ok, rng1_ok (by unfold small62; omega)]
    rfl
  unfold s_law_v2_2
  rw [ev_for]
  show SRes.of (evIt (callN pr 30) [([], none)] none (.rng1 (.con (.int 5))) [some (.fl (ns.map .int)), some (.loc 0), none, none, none, none, none, none, none, none, none, none, none, none] [penC P]) _ _ = _
  rw [hr]
  exact e
end MM.K02
end

section
set_option maxRecDepth 100000
set_option linter.all false
open PySem PySem.W PyProof.Rows
set_option maxHeartbeats 0 in
theorem PySem.Challenge.cw_meansmeet_k02_ratios_holds : PySem.Challenge.rw_meansmeet_k02_ratios.Holds := by
  w_on; o_law; k_head; (case hw => w_witness2)
  k_fill
  refine MM.law_walk (l := PySem.Challenge.rw_meansmeet_k02_ratios) (n := 31) (p := MM.K02.pg) rfl (by decide) rfl ⟨rfl, by decide, by decide⟩ (fun w h Y => by first | exact PySem.W.kIn_of Y | exact PySem.W.km_in_of Y) ?F (MM.K02.law_ok)
  case F =>
    intro w mg mb fa h lo mean KX TT hmg
    refine' MM.top_all (p := MM.K02.pg) (xcs := [MM.K02.x_BadRatio, MM.K02.x_BadNumber]) (dl := MM.K02.d_law) (xn := "script") [("law", _, _)] KX TT hmg (by rfl) (by simp [MM.K02.pg]) rfl rfl (fun z => nomatch z) (fun z => nomatch z) MM.K02.ond ⟨MM.defK_of (d := MM.K02.d_is_whole) KX TT.g MM.K02.bd_is_whole ?a_is_whole ?l_is_whole ?c_is_whole ?k_is_whole rfl, MM.defK_of (d := MM.K02.d_is_ratio) KX TT.g MM.K02.bd_is_ratio ?a_is_ratio ?l_is_ratio ?c_is_ratio ?k_is_ratio rfl, MM.defK_of (d := MM.K02.d_lowest) KX TT.g MM.K02.bd_lowest ?a_lowest ?l_lowest ?c_lowest ?k_lowest rfl, MM.defK_of (d := MM.K02.d_told) KX TT.g MM.K02.bd_told ?a_told ?l_told ?c_told ?k_told rfl, MM.defK_of (d := MM.K02.d_radd) KX TT.g MM.K02.bd_radd ?a_radd ?l_radd ?c_radd ?k_radd rfl, MM.defK_of (d := MM.K02.d_rsub) KX TT.g MM.K02.bd_rsub ?a_rsub ?l_rsub ?c_rsub ?k_rsub rfl, MM.defK_of (d := MM.K02.d_rmul) KX TT.g MM.K02.bd_rmul ?a_rmul ?l_rmul ?c_rmul ?k_rmul rfl, MM.defK_of (d := MM.K02.d_rdiv) KX TT.g MM.K02.bd_rdiv ?a_rdiv ?l_rdiv ?c_rdiv ?k_rdiv rfl, MM.defK_of (d := MM.K02.d_rless) KX TT.g MM.K02.bd_rless ?a_rless ?l_rless ?c_rless ?k_rless rfl, MM.defK_of (d := MM.K02.d_plus) KX TT.g MM.K02.bd_plus ?a_plus ?l_plus ?c_plus ?k_plus rfl, MM.defK_of (d := MM.K02.d_minus) KX TT.g MM.K02.bd_minus ?a_minus ?l_minus ?c_minus ?k_minus rfl, MM.defK_of (d := MM.K02.d_times) KX TT.g MM.K02.bd_times ?a_times ?l_times ?c_times ?k_times rfl, MM.defK_of (d := MM.K02.d_share_of) KX TT.g MM.K02.bd_share_of ?a_share_of ?l_share_of ?c_share_of ?k_share_of rfl, MM.defK_of (d := MM.K02.d_less) KX TT.g MM.K02.bd_less ?a_less ?l_less ?c_less ?k_less rfl, MM.defK_of (d := MM.K02.d_same) KX TT.g MM.K02.bd_same ?a_same ?l_same ?c_same ?k_same rfl, MM.defK_of (d := MM.K02.d__law_pen) KX TT.g MM.K02.bd__law_pen ?a__law_pen ?l__law_pen ?c__law_pen ?k__law_pen rfl, MM.defK_of (d := MM.K02.d__law_draw) KX TT.g MM.K02.bd__law_draw ?a__law_draw ?l__law_draw ?c__law_draw ?k__law_draw rfl, MM.defK_of (d := MM.K02.d__law_pick) KX TT.g MM.K02.bd__law_pick ?a__law_pick ?l__law_pick ?c__law_pick ?k__law_pick rfl, MM.defK_of (d := MM.K02.d__law_is_int) KX TT.g MM.K02.bd__law_is_int ?a__law_is_int ?l__law_is_int ?c__law_is_int ?k__law_is_int rfl, MM.defK_of (d := MM.K02.d__law_gcd) KX TT.g MM.K02.bd__law_gcd ?a__law_gcd ?l__law_gcd ?c__law_gcd ?k__law_gcd rfl, MM.defK_of (d := MM.K02.d__law_low) KX TT.g MM.K02.bd__law_low ?a__law_low ?l__law_low ?c__law_low ?k__law_low rfl, MM.defK_of (d := MM.K02.d__law_add) KX TT.g MM.K02.bd__law_add ?a__law_add ?l__law_add ?c__law_add ?k__law_add rfl, MM.defK_of (d := MM.K02.d__law_sub) KX TT.g MM.K02.bd__law_sub ?a__law_sub ?l__law_sub ?c__law_sub ?k__law_sub rfl, MM.defK_of (d := MM.K02.d__law_mul) KX TT.g MM.K02.bd__law_mul ?a__law_mul ?l__law_mul ?c__law_mul ?k__law_mul rfl, MM.defK_of (d := MM.K02.d__law_div) KX TT.g MM.K02.bd__law_div ?a__law_div ?l__law_div ?c__law_div ?k__law_div rfl, MM.defK_of (d := MM.K02.d__law_less) KX TT.g MM.K02.bd__law_less ?a__law_less ?l__law_less ?c__law_less ?k__law_less rfl, MM.defK_of (d := MM.K02.d__law_is_pair) KX TT.g MM.K02.bd__law_is_pair ?a__law_is_pair ?l__law_is_pair ?c__law_is_pair ?k__law_is_pair rfl, MM.defK_of (d := MM.K02.d__law_loose) KX TT.g MM.K02.bd__law_loose ?a__law_loose ?l__law_loose ?c__law_loose ?k__law_loose rfl, MM.defK_of (d := MM.K02.d__law_ratio) KX TT.g MM.K02.bd__law_ratio ?a__law_ratio ?l__law_ratio ?c__law_ratio ?k__law_ratio rfl, MM.defK_of (d := MM.K02.d__law_fault) KX TT.g MM.K02.bd__law_fault ?a__law_fault ?l__law_fault ?c__law_fault ?k__law_fault rfl, MM.defK_of (d := MM.K02.d__law_is_ratio) KX TT.g MM.K02.bd__law_is_ratio ?a__law_is_ratio ?l__law_is_ratio ?c__law_is_ratio ?k__law_is_ratio rfl, MM.defK_of (d := MM.K02.d__law_odd) KX TT.g MM.K02.bd__law_odd ?a__law_odd ?l__law_odd ?c__law_odd ?k__law_odd rfl, MM.defL_of (d := MM.K02.d_law) KX TT.g MM.K02.bd_law ?a_law ?l_law ?c_law ?k_law ?lc_law ?vp_law, trivial⟩ ⟨MM.xcK_of (x := MM.K02.x_BadRatio) KX TT.g MM.K02.bd_xBadRatio ?xa_BadRatio ?xl_BadRatio ?xr_BadRatio ?xsa_BadRatio ?xga_BadRatio ?xgg_BadRatio ?xin_BadRatio ?xti_BadRatio ?xli_BadRatio ?xci_BadRatio ?xki_BadRatio ?xkC_BadRatio ?xeC_BadRatio ?xtC_BadRatio ?xhC_BadRatio ⟨?f_BadRatio_0, ?f_BadRatio_1, ?f_BadRatio_2, trivial⟩, MM.xcK_of (x := MM.K02.x_BadNumber) KX TT.g MM.K02.bd_xBadNumber ?xa_BadNumber ?xl_BadNumber ?xr_BadNumber ?xsa_BadNumber ?xga_BadNumber ?xgg_BadNumber ?xin_BadNumber ?xti_BadNumber ?xli_BadNumber ?xci_BadNumber ?xki_BadNumber ?xkC_BadNumber ?xeC_BadNumber ?xtC_BadNumber ?xhC_BadNumber ⟨?f_BadNumber_0, ?f_BadNumber_1, ?f_BadNumber_2, trivial⟩, trivial⟩ ⟨⟨MM.hdK_of (q := ("BadNumber", ["BadNumber"])) (x := MM.K02.x_BadRatio) (b := false) KX TT.g ?ha_BadRatio_0 ?hb_BadRatio_0 ?hs_BadRatio_0 (by decide +kernel) ?he_BadRatio_0 ?hh_BadRatio_0 ?ht_BadRatio_0, MM.hdK_of (q := ("BadNumber", ["BadNumber"])) (x := MM.K02.x_BadNumber) (b := true) KX TT.g ?ha_BadNumber_0 ?hb_BadNumber_0 ?hs_BadNumber_0 (by decide +kernel) ?he_BadNumber_0 ?hh_BadNumber_0 ?ht_BadNumber_0, trivial⟩, ⟨MM.hdK_of (q := ("BadRatio", ["BadRatio"])) (x := MM.K02.x_BadRatio) (b := true) KX TT.g ?ha_BadRatio_1 ?hb_BadRatio_1 ?hs_BadRatio_1 (by decide +kernel) ?he_BadRatio_1 ?hh_BadRatio_1 ?ht_BadRatio_1, MM.hdK_of (q := ("BadRatio", ["BadRatio"])) (x := MM.K02.x_BadNumber) (b := false) KX TT.g ?ha_BadNumber_1 ?hb_BadNumber_1 ?hs_BadNumber_1 (by decide +kernel) ?he_BadNumber_1 ?hh_BadNumber_1 ?ht_BadNumber_1, trivial⟩, trivial⟩ ⟨⟨MM.isK_of (q := ("BadNumber", ["BadNumber"])) (x := MM.K02.x_BadRatio) (b := false) KX TT.g ?ia_BadRatio_0 ?ib_BadRatio_0 ?is_BadRatio_0 (by decide +kernel) ?ih_BadRatio_0 ?it_BadRatio_0 ?ic_BadRatio_0 ?in_BadRatio_0 ?ik_BadRatio_0 ?im_BadRatio_0 ?iq_BadRatio_0, MM.isK_of (q := ("BadNumber", ["BadNumber"])) (x := MM.K02.x_BadNumber) (b := true) KX TT.g ?ia_BadNumber_0 ?ib_BadNumber_0 ?is_BadNumber_0 (by decide +kernel) ?ih_BadNumber_0 ?it_BadNumber_0 ?ic_BadNumber_0 ?in_BadNumber_0 ?ik_BadNumber_0 ?im_BadNumber_0 ?iq_BadNumber_0, trivial⟩, trivial⟩ ⟨MM.tabK_of ?ua_law ?ul_law ?uh_law ?uc_law ?vp2_law ?to_law ?tf_law, trivial⟩ ?htn ?htd (MM.tbOk_of (tb := MM.K02.tbl) KX TT.g ⟨?b_blen, ?b_bgcd, ?b_bint, ?b_blist, ?b_babs, ?b_brepr, ?b_bstr, trivial⟩ ⟨?t_int, ?t_bool, ?t_tuple, ?t_list, trivial⟩ trivial ?isi ?rng ?zip ?enm) MM.K02.oks MM.K02.oxs MM.K02.ors
    (case a_is_whole => k_is)
    (case l_is_whole => k_is)
    (case c_is_whole => k_is)
    (case k_is_whole => k_is)
    (case a_is_ratio => k_is)
    (case l_is_ratio => k_is)
    (case c_is_ratio => k_is)
    (case k_is_ratio => k_is)
    (case a_lowest => k_is)
    (case l_lowest => k_is)
    (case c_lowest => k_is)
    (case k_lowest => k_is)
    (case a_told => k_is)
    (case l_told => k_is)
    (case c_told => k_is)
    (case k_told => k_is)
    (case a_radd => k_is)
    (case l_radd => k_is)
    (case c_radd => k_is)
    (case k_radd => k_is)
    (case a_rsub => k_is)
    (case l_rsub => k_is)
    (case c_rsub => k_is)
    (case k_rsub => k_is)
    (case a_rmul => k_is)
    (case l_rmul => k_is)
    (case c_rmul => k_is)
    (case k_rmul => k_is)
    (case a_rdiv => k_is)
    (case l_rdiv => k_is)
    (case c_rdiv => k_is)
    (case k_rdiv => k_is)
    (case a_rless => k_is)
    (case l_rless => k_is)
    (case c_rless => k_is)
    (case k_rless => k_is)
    (case a_plus => k_is)
    (case l_plus => k_is)
    (case c_plus => k_is)
    (case k_plus => k_is)
    (case a_minus => k_is)
    (case l_minus => k_is)
    (case c_minus => k_is)
    (case k_minus => k_is)
    (case a_times => k_is)
    (case l_times => k_is)
    (case c_times => k_is)
    (case k_times => k_is)
    (case a_share_of => k_is)
    (case l_share_of => k_is)
    (case c_share_of => k_is)
    (case k_share_of => k_is)
    (case a_less => k_is)
    (case l_less => k_is)
    (case c_less => k_is)
    (case k_less => k_is)
    (case a_same => k_is)
    (case l_same => k_is)
    (case c_same => k_is)
    (case k_same => k_is)
    (case a__law_pen => k_is)
    (case l__law_pen => k_is)
    (case c__law_pen => k_is)
    (case k__law_pen => k_is)
    (case a__law_draw => k_is)
    (case l__law_draw => k_is)
    (case c__law_draw => k_is)
    (case k__law_draw => k_is)
    (case a__law_pick => k_is)
    (case l__law_pick => k_is)
    (case c__law_pick => k_is)
    (case k__law_pick => k_is)
    (case a__law_is_int => k_is)
    (case l__law_is_int => k_is)
    (case c__law_is_int => k_is)
    (case k__law_is_int => k_is)
    (case a__law_gcd => k_is)
    (case l__law_gcd => k_is)
    (case c__law_gcd => k_is)
    (case k__law_gcd => k_is)
    (case a__law_low => k_is)
    (case l__law_low => k_is)
    (case c__law_low => k_is)
    (case k__law_low => k_is)
    (case a__law_add => k_is)
    (case l__law_add => k_is)
    (case c__law_add => k_is)
    (case k__law_add => k_is)
    (case a__law_sub => k_is)
    (case l__law_sub => k_is)
    (case c__law_sub => k_is)
    (case k__law_sub => k_is)
    (case a__law_mul => k_is)
    (case l__law_mul => k_is)
    (case c__law_mul => k_is)
    (case k__law_mul => k_is)
    (case a__law_div => k_is)
    (case l__law_div => k_is)
    (case c__law_div => k_is)
    (case k__law_div => k_is)
    (case a__law_less => k_is)
    (case l__law_less => k_is)
    (case c__law_less => k_is)
    (case k__law_less => k_is)
    (case a__law_is_pair => k_is)
    (case l__law_is_pair => k_is)
    (case c__law_is_pair => k_is)
    (case k__law_is_pair => k_is)
    (case a__law_loose => k_is)
    (case l__law_loose => k_is)
    (case c__law_loose => k_is)
    (case k__law_loose => k_is)
    (case a__law_ratio => k_is)
    (case l__law_ratio => k_is)
    (case c__law_ratio => k_is)
    (case k__law_ratio => k_is)
    (case a__law_fault => k_is)
    (case l__law_fault => k_is)
    (case c__law_fault => k_is)
    (case k__law_fault => k_is)
    (case a__law_is_ratio => k_is)
    (case l__law_is_ratio => k_is)
    (case c__law_is_ratio => k_is)
    (case k__law_is_ratio => k_is)
    (case a__law_odd => k_is)
    (case l__law_odd => k_is)
    (case c__law_odd => k_is)
    (case k__law_odd => k_is)
    (case a_law => k_is)
    (case l_law => k_is)
    (case c_law => k_is)
    (case k_law => k_is)
    (case lc_law => k_is)
    (case vp_law => rfl)
    (case xa_BadRatio => k_is)
    (case xl_BadRatio => k_is)
    (case xr_BadRatio => decide +kernel)
    (case xsa_BadRatio => k_is)
    (case xga_BadRatio => k_is)
    (case xgg_BadRatio => k_is)
    (case xin_BadRatio => k_is)
    (case xti_BadRatio => k_is)
    (case xli_BadRatio => k_is)
    (case xci_BadRatio => k_is)
    (case xki_BadRatio => k_is)
    (case xkC_BadRatio => k_is)
    (case xeC_BadRatio => k_is)
    (case xtC_BadRatio => k_is)
    (case xhC_BadRatio => k_is)
    (case f_BadRatio_0 => show findIn _ _ _ = _; k_is)
    (case f_BadRatio_1 => show findIn _ _ _ = _; k_is)
    (case f_BadRatio_2 => show findIn _ _ _ = _; k_is)
    (case xa_BadNumber => k_is)
    (case xl_BadNumber => k_is)
    (case xr_BadNumber => decide +kernel)
    (case xsa_BadNumber => k_is)
    (case xga_BadNumber => k_is)
    (case xgg_BadNumber => k_is)
    (case xin_BadNumber => k_is)
    (case xti_BadNumber => k_is)
    (case xli_BadNumber => k_is)
    (case xci_BadNumber => k_is)
    (case xki_BadNumber => k_is)
    (case xkC_BadNumber => k_is)
    (case xeC_BadNumber => k_is)
    (case xtC_BadNumber => k_is)
    (case xhC_BadNumber => k_is)
    (case f_BadNumber_0 => show findIn _ _ _ = _; k_is)
    (case f_BadNumber_1 => show findIn _ _ _ = _; k_is)
    (case f_BadNumber_2 => show findIn _ _ _ = _; k_is)
    (case ha_BadRatio_0 => k_is)
    (case hb_BadRatio_0 => k_is)
    (case hs_BadRatio_0 => k_is)
    (case he_BadRatio_0 => k_is)
    (case hh_BadRatio_0 => k_is)
    (case ht_BadRatio_0 => k_is)
    (case ha_BadNumber_0 => k_is)
    (case hb_BadNumber_0 => k_is)
    (case hs_BadNumber_0 => k_is)
    (case he_BadNumber_0 => k_is)
    (case hh_BadNumber_0 => k_is)
    (case ht_BadNumber_0 => k_is)
    (case ha_BadRatio_1 => k_is)
    (case hb_BadRatio_1 => k_is)
    (case hs_BadRatio_1 => k_is)
    (case he_BadRatio_1 => k_is)
    (case hh_BadRatio_1 => k_is)
    (case ht_BadRatio_1 => k_is)
    (case ha_BadNumber_1 => k_is)
    (case hb_BadNumber_1 => k_is)
    (case hs_BadNumber_1 => k_is)
    (case he_BadNumber_1 => k_is)
    (case hh_BadNumber_1 => k_is)
    (case ht_BadNumber_1 => k_is)
    (case ia_BadRatio_0 => k_is)
    (case ib_BadRatio_0 => k_is)
    (case is_BadRatio_0 => k_is)
    (case ih_BadRatio_0 => k_is)
    (case it_BadRatio_0 => k_is)
    (case ic_BadRatio_0 => k_is)
    (case in_BadRatio_0 => k_is)
    (case ik_BadRatio_0 => k_is)
    (case im_BadRatio_0 => k_is)
    (case iq_BadRatio_0 => first | exact fun _ => rfl | decide | decide +kernel)
    (case ia_BadNumber_0 => k_is)
    (case ib_BadNumber_0 => k_is)
    (case is_BadNumber_0 => k_is)
    (case ih_BadNumber_0 => k_is)
    (case it_BadNumber_0 => k_is)
    (case ic_BadNumber_0 => k_is)
    (case in_BadNumber_0 => k_is)
    (case ik_BadNumber_0 => k_is)
    (case im_BadNumber_0 => k_is)
    (case iq_BadNumber_0 => first | exact fun _ => rfl | decide | decide +kernel)
    (case b_blen => show nsIn _ _ _ = _; k_is)
    (case b_bgcd => show nsIn _ _ _ = _; k_is)
    (case b_bint => show nsIn _ _ _ = _; k_is)
    (case b_blist => show nsIn _ _ _ = _; k_is)
    (case b_babs => show nsIn _ _ _ = _; k_is)
    (case b_brepr => show nsIn _ _ _ = _; k_is)
    (case b_bstr => show nsIn _ _ _ = _; k_is)
    (case t_int => show nsIn _ _ _ = _; k_is)
    (case t_bool => show nsIn _ _ _ = _; k_is)
    (case t_tuple => show nsIn _ _ _ = _; k_is)
    (case t_list => show nsIn _ _ _ = _; k_is)
    (case isi => k_is)
    (case rng => k_is)
    (case zip => k_is)
    (case enm => k_is)
    (case ua_law => k_is)
    (case ul_law => k_is)
    (case uh_law => rfl)
    (case uc_law => k_is)
    (case vp2_law => rfl)
    (case to_law => first | kernel_rfl | rfl)
    (case tf_law => decide +kernel)
    (case htn => decide +kernel)
    (case htd => decide +kernel)
end
