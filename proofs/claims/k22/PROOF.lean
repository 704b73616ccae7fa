import PyProof.Rows.All
import Wide.All
import OpenK.AllK
import Wide.FinOn
import HandS.ForMost
import HandS.TupAny
import HandS.Deep
import HandS.Style
import HandS.Rev
import HandS.Zip
import HandS.IsInst
import HandS.Conv
import PyProof.Rows.NestShow
import KE.DataMinMax
import HandS.SortKw
import HandS.Ends
import HandS.Defaults
import HandS.TryOnly
import HandS.Codes
import HandS.More
import HandS.HeadEnd
import HandS.Head0
import HandS.Head1
import HandS.Head2
import HandS.HeadHook1
import HandS.HeadHook2
import HandS.HeadHook3
import KE.KStateDown
import PySem.Challenge.RW_halfnoted_k22_checks_of_casts
set_option Elab.async false
set_option linter.all false
set_option maxRecDepth 100000
/-! A small language for the part of Python that these programs use: data D (tuples and finished lists are values), a store of lists and instances that change, expressions and statements, and what they do. -/
namespace HN
open PySem L2

inductive D where
  | non | bl (b : Bool) | int (i : Int) | str (s : Str)
  | tup (l : List D) | lst (l : List D) | scr (l : List D) | obj (c : Nat) (l : List D) | ref (a : Nat) | dic

/-- what stands in the store -/
inductive SO where
  | lst (l : List D) | ins (c : Nat) (l : List D) | dct (ks : List (List Int))
abbrev Store := List SO
/-- a local name: not bound, a value, or a list that nothing else knows -/
inductive Slot where
  | un | val (d : D) | own (l : List D)
abbrev Env := List Slot

/-! ### equality of data -/
mutual
def D.eqv : D → D → Bool
  | .non, .non => true
  | .bl a, .bl b => a == b
  | .bl a, .int j => (if a then 1 else 0) == j
  | .int i, .bl b => i == (if b then 1 else 0)
  | .int i, .int j => i == j
  | .str x, .str y => x == y
  | .tup xs, .tup ys => D.eqvL xs ys
  | .lst xs, .lst ys => D.eqvL xs ys
  | _, _ => false
def D.eqvL : List D → List D → Bool
  | [], [] => true
  | x :: xs, y :: ys => D.eqv x y && D.eqvL xs ys
  | _, _ => false
end
mutual
/-- data alone: no reference in it -/
def D.data : D → Bool
  | .non => true | .bl _ => true | .int _ => true | .str _ => true
  | .tup xs => D.dataL xs
  | .lst xs => D.dataL xs
  | .scr _ => false | .obj _ _ => false | .ref _ => false | .dic => false
def D.dataL : List D → Bool
  | [] => true
  | x :: xs => D.data x && D.dataL xs
end
mutual
def D.dep : D → Nat
  | .tup xs => D.depL xs + 1
  | .lst xs => D.depL xs + 1
  | _ => 0
def D.depL : List D → Nat
  | [] => 0
  | x :: xs => max (D.dep x) (D.depL xs)
end
def eqD (a b : D) : Option Bool := if D.data a && D.data b && decide (min (D.dep a) (D.dep b) ≤ 64) then some (D.eqv a b) else none
def inD (x : D) (l : List D) : Option Bool := if D.data x && D.dataL l && decide (min (D.depL l) (D.dep x) ≤ 64) then some (l.any fun y => D.eqv y x) else none

def truD (S : Store) : D → Option Bool
  | .non => some false
  | .bl b => some b
  | .int i => some (i != 0)
  | .str s => some (s.length != 0)
  | .tup l => some (!l.isEmpty)
  | .lst l => some (!l.isEmpty)
  | .ref a => match S[a]? with
    | some (.lst l) => some (!l.isEmpty)
    | _ => none
  | _ => none

/-! ### operators -/
inductive BOp | add | sub | mul | fdiv | mod | pow | shl
inductive COp | eq | ne | lt | le | gt | ge | is | isNot | isIn | notIn
def szOk (n : Nat) : Bool := decide (n ≤ 16777216)
def binD : BOp → D → D → Option D
  | .add, .int i, .int j => some (.int (i + j))
  | .add, .str i, .str j => if szOk (i.length + j.length) then some (.str (i ++ j)) else none
  | .add, .tup a, .tup b => if szOk (a.length + b.length) then some (.tup (a ++ b)) else none
  | .add, .lst a, .lst b => if szOk (a.length + b.length) then some (.lst (a ++ b)) else none
  | .sub, .int i, .int j => some (.int (i - j))
  | .mul, .int i, .int j => if (decide (-(2 ^ 64) < i) && decide (i < 2 ^ 64)) || (decide (-(2 ^ 64) < j) && decide (j < 2 ^ 64)) then some (.int (i * j)) else none
  | .fdiv, .int i, .int j => if decide (0 < j) && decide (j < 1073741824) then some (.int (i / j)) else none
  | .mod, .int i, .int j => if decide (0 < j) then some (.int (i % j)) else none
  | .pow, .int i, .int j => if decide (0 ≤ j) && decide (j ≤ 1000000) && decide (i.natAbs < 2 ^ 64) then some (.int (i ^ j.toNat)) else none
  | .shl, .int i, .int j => if decide (0 ≤ j) && decide (j ≤ 1000000) && decide (i.natAbs < 2 ^ 64) then some (.int (i * 2 ^ j.toNat)) else none
  | _, _, _ => none
def isNon : D → Bool
  | .non => true
  | _ => false
def isD : D → D → Option Bool
  | x, .non => some (isNon x)
  | .bl a, .bl b => some (a == b)
  | _, _ => none
def cmpD : COp → D → D → Option Bool
  | .eq, a, b => eqD a b
  | .ne, a, b => (eqD a b).map (!·)
  | .lt, .int i, .int j => some (decide (i < j))
  | .le, .int i, .int j => some (decide (i ≤ j))
  | .gt, .int i, .int j => some (decide (j < i))
  | .ge, .int i, .int j => some (decide (j ≤ i))
  | .is, a, b => isD a b
  | .isNot, a, b => (isD a b).map (!·)
  | .isIn, x, .tup l => inD x l
  | .isIn, x, .lst l => inD x l
  | .notIn, x, .tup l => (inD x l).map (!·)
  | .notIn, x, .lst l => (inD x l).map (!·)
  | _, _, _ => none

/-- a cut -/
def cutD {α : Type} (xs : List α) (lo hi : Option Int) : List α := (xs.drop (HT.sIx xs.length 0 lo)).take (HT.sIx xs.length xs.length hi - HT.sIx xs.length 0 lo)
def idxD (S : Store) : D → D → Option D
  | .tup l, .int i => atI l i
  | .lst l, .int i => atI l i
  | .str z, .int i => (atI z.cps.toList i).map fun c => .str ⟨#[c]⟩
  | .ref a, .int i => match S[a]? with
    | some (.lst l) => atI l i
    | _ => none
  | _, _ => none
def sliceD : D → Option Int → Option Int → Option D
  | .tup l, lo, hi => some (.tup (cutD l lo hi))
  | .lst l, lo, hi => some (.lst (cutD l lo hi))
  | .scr l, lo, hi => some (.lst (cutD l lo hi))
  | .str z, lo, hi => some (.str (cutS z lo hi))
  | _, _, _ => none

/-! ### built-in functions -/
inductive Bi | len | abs | int | str | repr | max1 | max0 | max2 | sum | tuple | list | all | isTuple | isStr | isInt | isBool | isList
def intsD : List D → Option (List Int)
  | [] => some []
  | .int i :: r => (intsD r).map (i :: ·)
  | _ => none
def boolsD : List D → Option (List Bool)
  | [] => some []
  | .bl i :: r => (boolsD r).map (i :: ·)
  | _ => none
def maxI : List Int → Int
  | [] => 0
  | a :: r => r.foldl max a
def tyD (S : Store) : D → Option String
  | .non => some "NoneType"
  | .bl _ => some "bool"
  | .int _ => some "int"
  | .str _ => some "str"
  | .tup _ => some "tuple"
  | .lst _ => some "list"
  | .ref a => match S[a]? with
    | some (.lst _) => some "list"
    | _ => none
  | _ => none
def one1 (f : D → Option D) : List D → Option D
  | [x] => f x
  | _ => none
def lenD (S : Store) : D → Option D
  | .tup l => some (.int l.length)
  | .lst l => some (.int l.length)
  | .scr l => some (.int l.length)
  | .str z => some (.int z.length)
  | .ref a => match S[a]? with
    | some (.lst l) => some (.int l.length)
    | _ => none
  | _ => none
def absD : D → Option D
  | .int i => some (.int (if i < 0 then -i else i))
  | _ => none
def intD : D → Option D
  | .int i => some (.int i)
  | .bl b => some (.int (if b then 1 else 0))
  | _ => none
def strD : D → Option D
  | .int i => if decide (i.natAbs.log2 < 1920) && PyData.strOk (toString i) && szOk (Str.ofString (toString i)).length then some (.str (toString i)) else none
  | _ => none
def maxD : D → Option D
  | .lst l => (intsD l).bind fun ns => if ns.isEmpty then none else some (.int (maxI ns))
  | _ => none
def max2D : List D → Option D
  | [x, y] => match x, y with
    | .int i, .int j => some (.int (if j > i then j else i))
    | _, _ => none
  | _ => none
def sumD : D → Option D
  | .lst l => (intsD l).map fun ns => .int ns.sum
  | _ => none
def tupleD (S : Store) : D → Option D
  | .lst l => some (.tup l)
  | .tup l => some (.tup l)
  | .ref a => match S[a]? with
    | some (.lst l) => some (.tup l)
    | _ => none
  | _ => none
def listD : D → Option D
  | .lst l => some (.lst l)
  | .tup l => some (.lst l)
  | .dic => some (.lst [])
  | _ => none
/-- a tuple of numbers is a key -/
def keyI : List D → Option (List Int)
  | [] => some []
  | .int i :: r => (keyI r).map (i :: ·)
  | _ => none
def keyD : D → Option (List Int)
  | .tup (.int i :: r) => (keyI r).map (i :: ·)
  | _ => none
def addK (ks : List (List Int)) (k : List Int) : List (List Int) := if ks.contains k then ks else ks ++ [k]
def keyT (k : List Int) : D := .tup (k.map .int)
def listS (S : Store) : D → Option D
  | .ref a => match S[a]? with
    | some (.dct ks) => some (.lst (ks.map keyT))
    | _ => none
  | d => listD d
def allD : D → Option D
  | .lst l => (boolsD l).map fun bs => .bl (bs.all id)
  | _ => none
def isT (T : String) : String → Bool := fun t => if T = "int" then t == "int" || t == "bool" else t == T
def isTD (S : Store) (T : String) : D → Option D := fun d => (tyD S d).map fun t => .bl (isT T t)
def max0D : D → Option D
  | .lst l => (intsD l).map fun ns => .int (if ns.isEmpty then 0 else maxI ns)
  | _ => none
mutual
/-- data as the kit's -/
def toPy : D → PyData
  | .non => .none | .bl b => .bool b | .int i => .int i | .str s => .str s
  | .tup l => .tuple (toPyL l) | .lst l => .list (toPyL l)
  | .scr _ => .none | .obj _ _ => .none | .ref _ => .none | .dic => .none
def toPyL : List D → List PyData
  | [] => []
  | d :: ds => toPy d :: toPyL ds
end
def reprD (d : D) : Option D := if D.data d && (decide (D.dep d ≠ 0) && (decide (D.dep d ≤ 60) && ((toPy d).showable && (szOk (toPy d).shown.length && PyData.strOk (toPy d).shown)))) then some (.str (toPy d).shown) else none
def biD (S : Store) : Bi → List D → Option D
  | .len => one1 (lenD S)
  | .abs => one1 absD
  | .int => one1 intD
  | .str => one1 strD
  | .repr => one1 reprD
  | .max1 => one1 maxD
  | .max0 => one1 max0D
  | .max2 => max2D
  | .sum => one1 sumD
  | .tuple => one1 (tupleD S)
  | .list => one1 (listS S)
  | .all => one1 allD
  | .isTuple => one1 (isTD S "tuple")
  | .isStr => one1 (isTD S "str")
  | .isInt => one1 (isTD S "int")
  | .isBool => one1 (isTD S "bool")
  | .isList => one1 (isTD S "list")

/-! ### the language -/
mutual
inductive E where
  | var (i : Nat) | int (i : Int) | str (s : Str) | bl (b : Bool) | non | glob (g : Nat) | absent
  | bin (op : BOp) (a b : E) | neg (a : E)
  | cmp (op : COp) (a b : E) | chain (op op' : COp) (a b c : E)
  | and (es : Es) | or (es : Es) | not (a : E) | ite (c a b : E)
  | call (f : Nat) (es : Es) | callK (f : Nat) (es ks : Es)
  | idx (a b : E) | slice (a lo hi : E) | rev (a : E)
  | tup (es : Es) | frz (l : Lx) | shr (l : Lx)
  | bi (f : Bi) (es : Es) | isi (f : Bi) (a : E)
  | lenOwn (i : Nat) | idxOwn (i : Nat) (b : E) | truOwn (i : Nat)
  | meth (c f : Nat) (o : E) (es : Es) | make (c : Nat) (es : Es) | record (c : Nat) (fz : Bool) (es : Es) | fld (c j : Nat) (o : E)
  | app (o a : E) | pop (o : E) | gdict (g : Nat) (a : E) | dict0 | dictN
inductive Es where
  | nil | cons (e : E) (es : Es)
inductive Lx where
  | disp (es : Es) | comp (tg : List Nat) (one : Bool) (it : It) (ifs : Es) (elt : E)
inductive It where
  | e (e : E) | range1 (a : E) | range2 (a b : E) | rev (a : E) | zip (a b : E)
end
mutual
inductive St where
  | expr (e : E) | set (i : Nat) (e : E) | setOwn (i : Nat) (l : Lx) | setT (is : List Nat) (e : E) | setL (is : List Nat) (e : E) | par (is : List Nat) (es : Es)
  | aug (i : Nat) (op : BOp) (e : E) | setF (c j : Nat) (o e : E) | augF (c j : Nat) (op : BOp) (o e : E) | setIx (o i e : E)
  | setIxOwn (v : Nat) (i e : E) | appOwn (v : Nat) (e : E) | extOwn (v : Nat) (e : E) | popOwn (i v : Nat)
  | ite (c : E) (a b : Ss) | forS (tg : List Nat) (one : Bool) (it : It) (body : Ss) | while (c : E) (body : Ss)
  | ret (e : E) | retN | share (i : Nat) | freeze (i : Nat) | pass | dset | setKey (o i : E)
inductive Ss where
  | nil | cons (s : St) (ss : Ss)
end

/-- what a call does -/
abbrev CallF := Nat → List D → Store → Option (D × Store)
structure Prg where
  glob : Nat → Option D
  gdict : Nat → List (Str × D)
  init : Nat → Option Nat
  size : Nat → Nat

inductive Fl where
  | nx (ρ : Env) (S : Store) | rt (d : D) (S : Store)

def getV (ρ : Env) (i : Nat) : Option D := match ρ[i]? with
  | some (.val d) => some d
  | _ => none
def getO (ρ : Env) (i : Nat) : Option (List D) := match ρ[i]? with
  | some (.own l) => some l
  | _ => none
/-- a name is stored -/
def putV (ρ : Env) (i : Nat) (d : D) : Env := ρ.set i (.val d)
def putVs : Env → List Nat → List D → Option Env
  | ρ, [], [] => some ρ
  | ρ, i :: is, d :: ds => putVs (putV ρ i d) is ds
  | _, _, _ => none
def wipeE (ρ : Env) : List Nat → Env
  | [] => ρ
  | v :: vs => (wipeE ρ vs).set v .un
/-- the target of a loop -/
def putT (ρ : Env) (one : Bool) (is : List Nat) (d : D) : Option Env :=
  match one, is, d with
  | true, [i], d => some (putV ρ i d)
  | false, is, .tup ds => putVs ρ is ds
  | _, _, _ => none
/-- a cut's part: left out, or an int -/
def partD : Bool → D → Option (Option Int)
  | true, _ => some none
  | false, .int i => some (some i)
  | _, _ => none
def isAbs : E → Bool
  | .absent => true
  | _ => false
/-- the turns of a comprehension -/
def compD (T : D → Store → Option (Option D × Store)) : List D → Store → Option (List D × Store)
  | [], S => some ([], S)
  | x :: xs, S => (T x S).bind fun r => match r with
    | (some d, S1) => (compD T xs S1).map fun q => (d :: q.1, q.2)
    | (none, S1) => compD T xs S1
def forD (T : D → Env → Store → Option Fl) : List D → Env → Store → Option Fl
  | [], ρ, S => some (.nx ρ S)
  | x :: xs, ρ, S => (T x ρ S).bind fun r => match r with
    | .nx ρ1 S1 => forD T xs ρ1 S1
    | .rt d S1 => some (.rt d S1)

/-! a loop without a bound: the turn gives the next state, or the end -/
def runN {α β : Type} (T : α → Option (Sum α β)) : Nat → α → Option β
  | 0, _ => none
  | k + 1, a => (T a).bind fun r => match r with
    | .inl a' => runN T k a'
    | .inr b => some b
theorem runN_mono {α β : Type} {T : α → Option (Sum α β)} : ∀ {k : Nat} {a : α} {b : β}, runN T k a = some b → runN T (k + 1) a = some b
  | 0, _, _, h => by cases h
  | k + 1, a, b, h => by
    have h' : ((T a).bind fun r => match r with | .inl a' => runN T k a' | .inr b => some b) = some b := h
    show ((T a).bind fun r => match r with | .inl a' => runN T (k + 1) a' | .inr b => some b) = some b
    cases q : T a with
    | none => rw [q] at h'; cases h'
    | some r =>
      rw [q] at h'
      cases r with
      | inl a' => exact runN_mono (show runN T k a' = some b from h')
      | inr c => exact h'
theorem runN_le {α β : Type} {T : α → Option (Sum α β)} {k m : Nat} {a : α} {b : β} (h : runN T k a = some b) (hm : k ≤ m) : runN T m a = some b := by
  obtain ⟨d, rfl⟩ := Nat.exists_eq_add_of_le hm
  induction d with
  | zero => exact h
  | succ d ih => exact runN_mono (ih (Nat.le_add_right _ _))
open Classical in
noncomputable def whileD {α β : Type} (T : α → Option (Sum α β)) (a : α) : Option β := if h : ∃ b k, runN T k a = some b then some h.choose else none
theorem whileD_of {α β : Type} {T : α → Option (Sum α β)} {a : α} {b : β} {k : Nat} (h : runN T k a = some b) : whileD T a = some b := by
  have e : ∃ b k, runN T k a = some b := ⟨b, k, h⟩
  unfold whileD
  rw [dif_pos e]
  obtain ⟨k', h'⟩ := e.choose_spec
  have h1 := runN_le h (Nat.le_max_left k k')
  have h2 := runN_le h' (Nat.le_max_right k k')
  rw [h1] at h2
  exact h2.symm
theorem whileD_some {α β : Type} {T : α → Option (Sum α β)} {a : α} {b : β} (h : whileD T a = some b) : ∃ k, runN T k a = some b := by
  unfold whileD at h
  split at h
  · rename_i e
    cases h
    exact e.choose_spec
  · cases h
theorem whileD_eq {α β : Type} (T : α → Option (Sum α β)) (a : α) : whileD T a = (T a).bind fun r => match r with | .inl a' => whileD T a' | .inr b => some b := by
  cases q : T a with
  | none =>
    cases w : whileD T a with
    | none => rfl
    | some b =>
      obtain ⟨k, h⟩ := whileD_some w
      cases k with
      | zero => cases h
      | succ k =>
        have h' : ((T a).bind fun r => match r with | .inl a' => runN T k a' | .inr b => some b) = some b := h
        rw [q] at h'
        cases h'
  | some r =>
    cases r with
    | inr b =>
      refine whileD_of (k := 1) ?_
      show ((T a).bind fun r => match r with | .inl a' => runN T 0 a' | .inr b => some b) = some b
      rw [q]
      rfl
    | inl a' =>
      show whileD T a = whileD T a'
      cases w : whileD T a' with
      | some b =>
        obtain ⟨k, h⟩ := whileD_some w
        refine whileD_of (k := k + 1) ?_
        show ((T a).bind fun r => match r with | .inl a' => runN T k a' | .inr b => some b) = some b
        rw [q]
        exact h
      | none =>
        cases w2 : whileD T a with
        | none => rfl
        | some b =>
          obtain ⟨k, h⟩ := whileD_some w2
          cases k with
          | zero => cases h
          | succ k =>
            have h' : ((T a).bind fun r => match r with | .inl a' => runN T k a' | .inr b => some b) = some b := h
            rw [q] at h'
            rw [whileD_of (show runN T k a' = some b from h')] at w
            cases w

/-- the items that are walked, and the list of the store that must stay as it is -/
def itemsD (S : Store) : D → Option (List D × Option (Nat × List D))
  | .tup l => some (l, none)
  | .lst l => some (l, none)
  | .ref a => match S[a]? with
    | some (.lst l) => some (l, some (a, l))
    | _ => none
  | _ => none
/-- the walked list stands as it stood -/
def keptP (src : Option (Nat × List D)) (S : Store) : Prop := match src with
  | none => True
  | some q => S[q.1]? = some (.lst q.2)
open Classical in
noncomputable def keptD (src : Option (Nat × List D)) (S : Store) : Bool := decide (keptP src S)
def rangeL (a b : Int) : List D := (List.range (b - a).toNat).map fun i => D.int (a + (i : Nat))
def rgOk (a b : Int) : Bool := decide (-(2 ^ 62) ≤ a) && decide (a < 2 ^ 62) && decide (-(2 ^ 62) ≤ b) && decide (b < 2 ^ 62)
def zipL : List D → List D → List D
  | x :: xs, y :: ys => .tup [x, y] :: zipL xs ys
  | _, _ => []
def insAt (S : Store) (c : Nat) : D → Option (List D)
  | .ref a => match S[a]? with
    | some (.ins c' l) => if c' = c then some l else none
    | _ => none
  | .obj c' l => if c' = c then some l else none
  | _ => none
def lstAt (S : Store) : D → Option (Nat × List D)
  | .ref a => match S[a]? with
    | some (.lst l) => some (a, l)
    | _ => none
  | _ => none
/-- the j-th field stored -/
def putA (l : List D) (j : Nat) (d : D) : Option (List D) := if j < l.length then some (l.set j d) else if j = l.length then some (l ++ [d]) else none

/-- one turn of a comprehension -/
noncomputable def turnC (one : Bool) (tg : List Nat) (src : Option (Nat × List D)) (fi : Env → Store → Option (Bool × Store)) (fe : Env → Store → Option (D × Store)) (ρ : Env) : D → Store → Option (Option D × Store) := fun x S1 =>
  (putT (wipeE ρ tg) one tg x).bind fun ρ1 => (fi ρ1 S1).bind fun b => (if b.1 then (fe ρ1 b.2).map (fun y => ((some y.1, y.2) : Option D × Store)) else some (none, b.2)).bind fun r => if keptD src r.2 then some r else none
/-- one turn of a loop over what is walked -/
noncomputable def turnF (one : Bool) (tg : List Nat) (src : Option (Nat × List D)) (fb : Env → Store → Option Fl) : D → Env → Store → Option Fl := fun x ρ1 S1 => (putT ρ1 one tg x).bind fun ρ2 => (fb ρ2 S1).bind fun r => match r with
  | .nx ρ3 S3 => if keptD src S3 then some (.nx ρ3 S3) else none
  | .rt d S3 => some (.rt d S3)
def flS : Fl → Sum (Env × Store) Fl
  | .nx ρ1 S1 => .inl (ρ1, S1)
  | .rt d S1 => .inr (.rt d S1)
/-- one turn of a while -/
def turnW (fc : Env → Store → Option (Bool × Store)) (fb : Env → Store → Option Fl) : Env × Store → Option (Sum (Env × Store) Fl) := fun q => (fc q.1 q.2).bind fun x => if x.1 then (fb q.1 x.2).map flS else some (.inr (.nx q.1 x.2))
section
variable (P : Prg) (call mk : CallF)
mutual
noncomputable def evE : E → Env → Store → Option (D × Store)
  | .var i, ρ, S => (getV ρ i).map fun d => (d, S)
  | .int i, _, S => some (.int i, S)
  | .str s, _, S => some (.str s, S)
  | .bl b, _, S => some (.bl b, S)
  | .non, _, S => some (.non, S)
  | .glob g, _, S => (P.glob g).map fun d => (d, S)
  | .absent, _, S => some (.non, S)
  | .dict0, _, S => some (.dic, S)
  | .dictN, _, S => some (.ref S.length, S ++ [.dct []])
  | .bin op a b, ρ, S => (evE a ρ S).bind fun x => (evE b ρ x.2).bind fun y => (binD op x.1 y.1).map fun d => (d, y.2)
  | .neg a, ρ, S => (evE a ρ S).bind fun x => match x with
    | (.int i, S1) => some (.int (-i), S1)
    | _ => none
  | .cmp op a b, ρ, S => (evE a ρ S).bind fun x => (evE b ρ x.2).bind fun y => (cmpD op x.1 y.1).map fun d => (.bl d, y.2)
  | .chain op op' a b c, ρ, S => (evE a ρ S).bind fun x => (evE b ρ x.2).bind fun y => (cmpD op x.1 y.1).bind fun k =>
    if k then (evE c ρ y.2).bind fun z => (cmpD op' y.1 z.1).map fun d => (.bl d, z.2) else some (.bl false, y.2)
  | .and es, ρ, S => evAnd es ρ S
  | .or es, ρ, S => evOr es ρ S
  | .not a, ρ, S => (evE a ρ S).bind fun x => match x with
    | (.bl b, S1) => some (.bl (!b), S1)
    | _ => none
  | .ite c a b, ρ, S => (evT c ρ S).bind fun x => if x.1 then evE a ρ x.2 else evE b ρ x.2
  | .call f es, ρ, S => (evEs es ρ S).bind fun x => call f x.1 x.2
  | .callK f es ks, ρ, S => (evEs es ρ S).bind fun x => (evEs ks ρ x.2).bind fun y => call f (x.1 ++ y.1) y.2
  | .idx a b, ρ, S => (evE a ρ S).bind fun x => (evE b ρ x.2).bind fun y => (idxD y.2 x.1 y.1).map fun d => (d, y.2)
  | .slice a lo hi, ρ, S => (evE a ρ S).bind fun x => (evE lo ρ x.2).bind fun y => (evE hi ρ y.2).bind fun z =>
    (partD (isAbs lo) y.1).bind fun l => (partD (isAbs hi) z.1).bind fun h => (sliceD x.1 l h).map fun d => (d, z.2)
  | .rev a, ρ, S => (evE a ρ S).bind fun x => match x with
    | (.lst l, S1) => some (.lst l.reverse, S1)
    | _ => none
  | .tup es, ρ, S => (evEs es ρ S).bind fun x => if szOk x.1.length then some (.tup x.1, x.2) else none
  | .frz l, ρ, S => (evL l ρ S).map fun x => (.lst x.1, x.2)
  | .shr l, ρ, S => (evL l ρ S).map fun x => (.ref x.2.length, x.2 ++ [.lst x.1])
  | .bi f es, ρ, S => (evEs es ρ S).bind fun x => (biD x.2 f x.1).map fun d => (d, x.2)
  | .isi f a, ρ, S => (evE a ρ S).bind fun x => (biD x.2 f [x.1]).map fun d => (d, x.2)
  | .lenOwn i, ρ, S => (getO ρ i).map fun l => (.int l.length, S)
  | .idxOwn i b, ρ, S => (evE b ρ S).bind fun y => (getO ρ i).bind fun l => match y.1 with
    | .int k => (atI l k).map fun d => (d, y.2)
    | _ => none
  | .truOwn _, _, _ => none
  | .meth c f o es, ρ, S => (evE o ρ S).bind fun x => (insAt x.2 c x.1).bind fun _ => (evEs es ρ x.2).bind fun y => call f (x.1 :: y.1) y.2
  | .make c es, ρ, S => (evEs es ρ S).bind fun x => (P.init c).bind fun f => (mk f (.ref x.2.length :: x.1) (x.2 ++ [.ins c []])).bind fun r => match r with
    | (.non, S2) => some (.ref x.2.length, S2)
    | _ => none
  | .record c fz es, ρ, S => (evEs es ρ S).bind fun x => if x.1.length = P.size c then (if fz then some (.obj c x.1, x.2) else some (.ref x.2.length, x.2 ++ [.ins c x.1])) else none
  | .fld c j o, ρ, S => (evE o ρ S).bind fun x => (insAt x.2 c x.1).bind fun l => (l[j]?).map fun d => (d, x.2)
  | .app o a, ρ, S => (evE o ρ S).bind fun x => (evE a ρ x.2).bind fun y => (lstAt y.2 x.1).bind fun q => if decide (q.2.length < 16777216) then some (.non, y.2.set q.1 (.lst (q.2 ++ [y.1]))) else none
  | .pop o, ρ, S => (evE o ρ S).bind fun x => (lstAt x.2 x.1).bind fun q => (q.2[q.2.length - 1]?).map fun d => (d, x.2.set q.1 (.lst q.2.dropLast))
  | .gdict g a, ρ, S => (evE a ρ S).bind fun x => match x with
    | (.str s, S1) => ((P.gdict g).lookup s).map fun d => (d, S1)
    | _ => none
/-- a test -/
noncomputable def evT : E → Env → Store → Option (Bool × Store)
  | .cmp op a b, ρ, S => (evE a ρ S).bind fun x => (evE b ρ x.2).bind fun y => (cmpD op x.1 y.1).map fun d => (d, y.2)
  | .and es, ρ, S => evAndT es ρ S
  | .or es, ρ, S => evOrT es ρ S
  | .not a, ρ, S => (evT a ρ S).map fun x => (!x.1, x.2)
  | .truOwn i, ρ, S => (getO ρ i).map fun l => (!l.isEmpty, S)
  | .chain op op' a b c, ρ, S => (evE a ρ S).bind fun x => (evE b ρ x.2).bind fun y => (cmpD op x.1 y.1).bind fun k =>
    if k then (evE c ρ y.2).bind fun z => (cmpD op' y.1 z.1).map fun d => (d, z.2) else some (false, y.2)
  | .var i, ρ, S => ((getV ρ i).map fun d => (d, S)).bind fun x => (truD x.2 x.1).map fun b => (b, x.2)
  | .call f es, ρ, S => ((evEs es ρ S).bind fun x => call f x.1 x.2).bind fun y => (truD y.2 y.1).map fun b => (b, y.2)
  | .callK f es ks, ρ, S => ((evEs es ρ S).bind fun x => (evEs ks ρ x.2).bind fun y => call f (x.1 ++ y.1) y.2).bind fun y => (truD y.2 y.1).map fun b => (b, y.2)
  | .idx a b, ρ, S => ((evE a ρ S).bind fun x => (evE b ρ x.2).bind fun y => (idxD y.2 x.1 y.1).map fun d => (d, y.2)).bind fun x => (truD x.2 x.1).map fun b => (b, x.2)
  | .fld c j o, ρ, S => ((evE o ρ S).bind fun x => (insAt x.2 c x.1).bind fun l => (l[j]?).map fun d => (d, x.2)).bind fun x => (truD x.2 x.1).map fun b => (b, x.2)
  | .bi f es, ρ, S => ((evEs es ρ S).bind fun x => (biD x.2 f x.1).map fun d => (d, x.2)).bind fun x => (truD x.2 x.1).map fun b => (b, x.2)
  | .meth c f o es, ρ, S => ((evE o ρ S).bind fun x => (insAt x.2 c x.1).bind fun _ => (evEs es ρ x.2).bind fun y => call f (x.1 :: y.1) y.2).bind fun z => (truD z.2 z.1).map fun b => (b, z.2)
  | .isi f a, ρ, S => ((evE a ρ S).bind fun x => (biD x.2 f [x.1]).map fun d => (d, x.2)).bind fun x => (truD x.2 x.1).map fun b => (b, x.2)
  | .bl b, _, S => some (b, S)
  | _, _, _ => none
noncomputable def evEs : Es → Env → Store → Option (List D × Store)
  | .nil, _, S => some ([], S)
  | .cons e es, ρ, S => (evE e ρ S).bind fun x => (evEs es ρ x.2).map fun y => (x.1 :: y.1, y.2)
noncomputable def evAnd : Es → Env → Store → Option (D × Store)
  | .nil, _, _ => none
  | .cons e .nil, ρ, S => evE e ρ S
  | .cons e es, ρ, S => (evE e ρ S).bind fun x => match x with
    | (.bl true, S1) => evAnd es ρ S1
    | (.bl false, S1) => some (.bl false, S1)
    | _ => none
noncomputable def evOr : Es → Env → Store → Option (D × Store)
  | .nil, _, _ => none
  | .cons e .nil, ρ, S => evE e ρ S
  | .cons e es, ρ, S => (evE e ρ S).bind fun x => match x with
    | (.bl false, S1) => evOr es ρ S1
    | (.bl true, S1) => some (.bl true, S1)
    | _ => none
noncomputable def evAndT : Es → Env → Store → Option (Bool × Store)
  | .nil, _, _ => none
  | .cons e .nil, ρ, S => evT e ρ S
  | .cons e es, ρ, S => (evT e ρ S).bind fun x => if x.1 then evAndT es ρ x.2 else some (false, x.2)
noncomputable def evOrT : Es → Env → Store → Option (Bool × Store)
  | .nil, _, _ => none
  | .cons e .nil, ρ, S => evT e ρ S
  | .cons e es, ρ, S => (evT e ρ S).bind fun x => if x.1 then some (true, x.2) else evOrT es ρ x.2
/-- a new list -/
noncomputable def evL : Lx → Env → Store → Option (List D × Store)
  | .disp es, ρ, S => (evEs es ρ S).bind fun x => if szOk x.1.length then some x else none
  | .comp tg one it ifs elt, ρ, S => (evI it ρ S).bind fun w => if decide (w.1.1.length ≤ 16777216) then compD (turnC one tg w.1.2 (evIfs ifs) (evE elt) ρ) w.1.1 w.2 else none
noncomputable def evIfs : Es → Env → Store → Option (Bool × Store)
  | .nil, _, S => some (true, S)
  | .cons c .nil, ρ, S => evT c ρ S
  | _, _, _ => none
/-- what is walked -/
noncomputable def evI : It → Env → Store → Option ((List D × Option (Nat × List D)) × Store)
  | .e e, ρ, S => (evE e ρ S).bind fun x => (itemsD x.2 x.1).map fun w => (w, x.2)
  | .range1 a, ρ, S => (evE a ρ S).bind fun x => match x with
    | (.int n, S1) => if rgOk 0 n then some ((rangeL 0 n, none), S1) else none
    | _ => none
  | .range2 a b, ρ, S => (evE a ρ S).bind fun x => (evE b ρ x.2).bind fun y => match x.1, y.1 with
    | .int i, .int j => if rgOk i j then some ((rangeL i j, none), y.2) else none
    | _, _ => none
  | .rev a, ρ, S => (evE a ρ S).bind fun x => match x.1 with
    | .lst l => some ((l.reverse, none), x.2)
    | .tup l => some ((l.reverse, none), x.2)
    | _ => none
  | .zip a b, ρ, S => (evE a ρ S).bind fun x => (evE b ρ x.2).bind fun y => match x.1, y.1 with
    | .lst l, .lst l' => if l.length = l'.length then some ((zipL l l', none), y.2) else none
    | .tup l, .tup l' => if l.length = l'.length then some ((zipL l l', none), y.2) else none
    | _, _ => none
end
end

/-! ### statements -/
def augD : BOp → D → D → Option D
  | .add, .int i, .int j => some (.int (i + j))
  | .sub, .int i, .int j => some (.int (i - j))
  | .add, .str i, .str j => if szOk (i.length + j.length) then some (.str (i ++ j)) else none
  | _, _, _ => none
/-- a key more in a dict of the store -/
def setKeyD (x y : D) (S : Store) : Option Store := match x with
  | .ref a => match S[a]? with
    | some (.dct ks) => if ks.length < 16777216 then (keyD y).map fun k => S.set a (.dct (addK ks k)) else none
    | _ => none
  | _ => none
section
variable (P : Prg) (call mk : CallF)
mutual
noncomputable def exS : St → Env → Store → Option Fl
  | .expr e, ρ, S => (evE P call mk e ρ S).map fun x => .nx ρ x.2
  | .set i e, ρ, S => (evE P call mk e ρ S).map fun x => .nx (putV ρ i x.1) x.2
  | .setOwn i l, ρ, S => (evL P call mk l ρ S).map fun x => .nx (ρ.set i (.own x.1)) x.2
  | .setT is e, ρ, S => (evE P call mk e ρ S).bind fun x => match x.1 with
    | .tup ds => (putVs ρ is ds).map fun ρ1 => .nx ρ1 x.2
    | _ => none
  | .setL is e, ρ, S => (evE P call mk e ρ S).bind fun x => match x.1 with
    | .lst ds => (putVs ρ is ds).map fun ρ1 => .nx ρ1 x.2
    | _ => none
  | .par is es, ρ, S => (evEs P call mk es ρ S).bind fun x => (putVs ρ is x.1).map fun ρ1 => .nx ρ1 x.2
  | .aug i op e, ρ, S => (getV ρ i).bind fun d => (evE P call mk e ρ S).bind fun x => (augD op d x.1).map fun r => .nx (putV ρ i r) x.2
  | .setF c j o e, ρ, S => (evE P call mk e ρ S).bind fun x => (evE P call mk o ρ x.2).bind fun y => match y.1 with
    | .ref a => (insAt y.2 c (.ref a)).bind fun l => (putA l j x.1).map fun l' => .nx ρ (y.2.set a (.ins c l'))
    | _ => none
  | .augF c j op o e, ρ, S => (evE P call mk o ρ S).bind fun y => match y.1 with
    | .ref a => (insAt y.2 c (.ref a)).bind fun l => (l[j]?).bind fun d => (evE P call mk e ρ y.2).bind fun x => (augD op d x.1).bind fun r =>
      (insAt x.2 c (.ref a)).bind fun l2 => (putA l2 j r).map fun l' => .nx ρ (x.2.set a (.ins c l'))
    | _ => none
  | .setIx o i e, ρ, S => (evE P call mk e ρ S).bind fun x => (evE P call mk o ρ x.2).bind fun y => (evE P call mk i ρ y.2).bind fun z => match z.1 with
    | .int k => (lstAt z.2 y.1).bind fun q => (ixN q.2.length k).map fun j => .nx ρ (z.2.set q.1 (.lst (q.2.set j x.1)))
    | _ => none
  | .setIxOwn v i e, ρ, S => (evE P call mk e ρ S).bind fun x => (evE P call mk i ρ x.2).bind fun z => (getO ρ v).bind fun l => match z.1 with
    | .int k => (ixN l.length k).map fun j => .nx (ρ.set v (.own (l.set j x.1))) z.2
    | _ => none
  | .appOwn v e, ρ, S => (evE P call mk e ρ S).bind fun x => (getO ρ v).bind fun l => if decide (l.length < 16777216) then some (.nx (ρ.set v (.own (l ++ [x.1]))) x.2) else none
  | .extOwn v e, ρ, S => (evE P call mk e ρ S).bind fun x => (getO ρ v).bind fun l => match x.1 with
    | .lst ds => if szOk (l.length + ds.length) then some (.nx (ρ.set v (.own (l ++ ds))) x.2) else none
    | _ => none
  | .popOwn i v, ρ, S => (getO ρ v).bind fun l => (l[l.length - 1]?).map fun d => .nx (putV (ρ.set v (.own l.dropLast)) i d) S
  | .ite c a b, ρ, S => (evT P call mk c ρ S).bind fun x => if x.1 then exSs a ρ x.2 else exSs b ρ x.2
  | .forS tg one it body, ρ, S => (evI P call mk it ρ S).bind fun w => forD (turnF one tg w.1.2 (exSs body)) w.1.1 ρ w.2
  | .while c body, ρ, S => whileD (turnW (evT P call mk c) (exSs body)) (ρ, S)
  | .ret e, ρ, S => (evE P call mk e ρ S).map fun x => .rt x.1 x.2
  | .retN, _, S => some (.rt .non S)
  | .share i, ρ, S => (getO ρ i).map fun l => .nx (putV ρ i (.ref S.length)) (S ++ [.lst l])
  | .freeze i, ρ, S => (getO ρ i).map fun l => .nx (putV ρ i (.lst l)) S
  | .pass, ρ, S => some (.nx ρ S)
  | .dset, _, _ => none
  | .setKey o i, ρ, S => (evE P call mk o ρ S).bind fun x => (evE P call mk i ρ x.2).bind fun y => (setKeyD x.1 y.1 y.2).map fun S1 => .nx ρ S1
noncomputable def exSs : Ss → Env → Store → Option Fl
  | .nil, ρ, S => some (.nx ρ S)
  | .cons s ss, ρ, S => (exS s ρ S).bind fun r => match r with
    | .nx ρ1 S1 => exSs ss ρ1 S1
    | .rt d S1 => some (.rt d S1)
end
end

/-! ### functions -/
mutual
/-- no reference to the store behind n -/
def D.bdd (n : Nat) : D → Bool
  | .ref a => decide (a < n)
  | .tup l => D.bddL n l
  | .lst l => D.bddL n l
  | .scr l => D.bddL n l
  | .obj _ l => D.bddL n l
  | _ => true
def D.bddL (n : Nat) : List D → Bool
  | [] => true
  | x :: xs => D.bdd n x && D.bddL n xs
end
open Classical in
/-- behind a call: what it made and left behind, if nothing else has changed -/
noncomputable def gcD (S : Store) (r : D × Store) : D × Store := if r.2.take S.length = S ∧ D.bdd S.length r.1 = true then (r.1, S) else r
structure FD where
  params : Nat
  slots : Nat
  body : Ss
def startD (n : Nat) (ds : List D) : Env := ds.map Slot.val ++ List.replicate (n - ds.length) Slot.un
noncomputable def runD (P : Prg) (call mk : CallF) (f : FD) (ds : List D) (S : Store) : Option (D × Store) :=
  if ds.length = f.params then (exSs P call mk f.body (startD f.slots ds) S).map fun r => match r with
    | .nx _ S1 => gcD S (.non, S1)
    | .rt d S1 => gcD S (d, S1)
  else none
noncomputable def callP (P : Prg) (defs : Nat → Option FD) : Nat → CallF × CallF
  | 0 => (fun _ _ _ => none, fun _ _ _ => none)
  | n + 1 => (fun f ds S => (defs f).bind fun d => runD P (callP P defs n).1 (callP P defs n).2 d ds S, (callP P defs n).1)
noncomputable def callF (P : Prg) (defs : Nat → Option FD) (n : Nat) : CallF := (callP P defs n).1
example (P : Prg) (c m : CallF) (ρ : Env) (S : Store) : evE P c m (.bin .add (.int 1) (.int 3)) ρ S = some (.int 4, S) := rfl
example (P : Prg) (c m : CallF) (ρ : Env) (S : Store) : exS P c m (.ite (.bl true) (.cons (.ret (.int 3)) .nil) .nil) ρ S = some (.rt (.int 3) S) := rfl
end HN

/-! How data and the store of HN stand in the abstract heap of HandS. -/
namespace HN
open PySem L2

/-- the fixed surroundings: the written part, the classes' places, their attributes' names in order -/
structure Gx where
  K : PySem.W.Frag
  cA : Nat → Addr
  cN : Nat → List Str
/-- where things stand: F what is finished (tuples, finished lists and instances), m the places of the store's objects -/
structure Mp where
  F : Hp
  m : Nat → Addr

/-- a tuple at p: tracked, or a written one that does not begin with a number -/
def TupAt (K : PySem.W.Frag) (F : Hp) (p : Addr) (vs : List V) : Prop := F p = some (.tup vs) ∨ (SqT K F p vs ∧ ∀ i r, vs ≠ V.int i :: r)
theorem TupAt.sq {K : PySem.W.Frag} {F : Hp} {p : Addr} {vs : List V} (h : TupAt K F p vs) : SqT K F p vs := h.elim (fun h => .inl (.inl h)) fun h => h.1
mutual
def Rp (G : Gx) (M : Mp) (n : Nat) : D → V → Prop
  | .non, v => v = .non
  | .bl b, v => v = .bl b
  | .int i, v => v = .int i
  | .str s, v => v = .str s ∧ PyData.strOk s = true ∧ s.length ≤ 16777216
  | .tup l, v => ∃ p vs, v = .ref p ∧ TupAt G.K M.F p vs ∧ RpL G M n l vs
  | .lst l, v => ∃ p vs, v = .ref p ∧ M.F p = some (.lst vs) ∧ RpL G M n l vs
  | .scr l, v => ∃ p vs, v = .ref p ∧ SqL G.K M.F p vs ∧ RpL G M n l vs
  | .obj c l, v => ∃ p dx vs, v = .ref p ∧ M.F p = some (.ins (G.cA c) dx ((G.cN c).zip vs)) ∧ l.length = (G.cN c).length ∧ RpL G M n l vs
  | .ref a, v => a < n ∧ v = .ref (M.m a)
  | .dic, v => ∃ p, v = .ref p ∧ M.F p = some (.dT [])
def RpL (G : Gx) (M : Mp) (n : Nat) : List D → List V → Prop
  | [], vs => vs = []
  | d :: ds, vs => ∃ v r, vs = v :: r ∧ Rp G M n d v ∧ RpL G M n ds r
end

section
variable {G : Gx} {M M' : Mp} {n n' : Nat}
theorem RpL.nil : RpL G M n [] [] := rfl
theorem RpL.cons {d : D} {v : V} {ds : List D} {vs : List V} (h : Rp G M n d v) (t : RpL G M n ds vs) : RpL G M n (d :: ds) (v :: vs) := ⟨v, vs, rfl, h, t⟩
theorem RpL.length : ∀ {ds : List D} {vs : List V}, RpL G M n ds vs → ds.length = vs.length
  | [], vs, h => by
    have e : vs = [] := h
    rw [e] <;> rfl
  | d :: ds, vs, h => by
    obtain ⟨v, r, e, _, t⟩ := h
    rw [e, List.length_cons, List.length_cons, RpL.length t]
theorem RpL.get : ∀ {ds : List D} {vs : List V} {i : Nat} {d : D}, RpL G M n ds vs → ds[i]? = some d → ∃ v, vs[i]? = some v ∧ Rp G M n d v
  | [], _, _, _, _, e => by simp at e
  | d :: ds, vs, 0, x, h, e => by
    obtain ⟨v, r, ev, hv, t⟩ := h
    have ex : d = x := by simpa using e
    rw [← ex, ev]
    exact ⟨v, rfl, hv⟩
  | d :: ds, vs, i + 1, x, h, e => by
    obtain ⟨v, r, ev, hv, t⟩ := h
    obtain ⟨w, h1, h2⟩ := RpL.get (i := i) t (by simpa using e)
    rw [ev]
    exact ⟨w, by simpa using h1, h2⟩
theorem RpL.of_get : ∀ {ds : List D} {vs : List V}, ds.length = vs.length → (∀ (i : Nat) (d : D) (v : V), ds[i]? = some d → vs[i]? = some v → Rp G M n d v) → RpL G M n ds vs
  | [], [], _, _ => rfl
  | [], _ :: _, h, _ => by simp at h
  | _ :: _, [], h, _ => by simp at h
  | d :: ds, v :: vs, h, f => RpL.cons (f 0 d v rfl rfl) (RpL.of_get (by simpa using h) fun i d' v' e1 e2 => f (i + 1) d' v' (by simpa using e1) (by simpa using e2))
theorem RpL.back {ds : List D} {vs : List V} {i : Nat} {v : V} (h : RpL G M n ds vs) (e : vs[i]? = some v) : ∃ d, ds[i]? = some d ∧ Rp G M n d v := by
  have hi : i < ds.length := by
    rw [h.length]
    exact (List.getElem?_eq_some_iff.mp e).1
  obtain ⟨w, h1, h2⟩ := h.get (List.getElem?_eq_getElem hi)
  rw [e] at h1
  cases h1
  exact ⟨_, List.getElem?_eq_getElem hi, h2⟩
theorem RpL.append : ∀ {ds es : List D} {vs us : List V}, RpL G M n ds vs → RpL G M n es us → RpL G M n (ds ++ es) (vs ++ us)
  | [], _, vs, _, h, t => by
    have e : vs = [] := h
    rw [e]
    exact t
  | d :: ds, _, vs, _, h, t => by
    obtain ⟨v, r, ev, hv, q⟩ := h
    rw [ev]
    exact RpL.cons hv (RpL.append q t)
theorem RpL.take : ∀ {ds : List D} {vs : List V} (k : Nat), RpL G M n ds vs → RpL G M n (ds.take k) (vs.take k) := fun {ds vs} k h =>
  RpL.of_get (by rw [List.length_take, List.length_take, h.length]) fun i d v e1 e2 => by
    rw [List.getElem?_take] at e1 e2
    split at e1
    · rename_i hi
      rw [if_pos hi] at e2
      obtain ⟨w, q1, q2⟩ := h.get e1
      rw [e2] at q1
      cases q1
      exact q2
    · cases e1
theorem RpL.drop : ∀ {ds : List D} {vs : List V} (k : Nat), RpL G M n ds vs → RpL G M n (ds.drop k) (vs.drop k) := fun {ds vs} k h =>
  RpL.of_get (by rw [List.length_drop, List.length_drop, h.length]) fun i d v e1 e2 => by
    rw [List.getElem?_drop] at e1 e2
    obtain ⟨w, q1, q2⟩ := h.get e1
    rw [e2] at q1
    cases q1
    exact q2
theorem RpL.reverse {ds : List D} {vs : List V} (h : RpL G M n ds vs) : RpL G M n ds.reverse vs.reverse := by
  induction ds generalizing vs with
  | nil =>
    have e : vs = [] := h
    rw [e]
    exact RpL.nil
  | cons d ds ih =>
    obtain ⟨v, r, ev, hv, q⟩ := h
    rw [ev, List.reverse_cons, List.reverse_cons]
    exact (ih q).append (RpL.cons hv RpL.nil)
theorem RpL.set {ds : List D} {vs : List V} {d : D} {v : V} (k : Nat) (h : RpL G M n ds vs) (q : Rp G M n d v) : RpL G M n (ds.set k d) (vs.set k v) :=
  RpL.of_get (by rw [List.length_set, List.length_set, h.length]) fun i d' v' e1 e2 => by
    rw [List.getElem?_set] at e1 e2
    have hl := h.length
    by_cases hk : k = i
    · rw [if_pos hk] at e1 e2
      split at e1
      · rename_i hlt
        rw [if_pos (by rw [← hl]; exact hlt)] at e2
        cases e1
        cases e2
        exact q
      · cases e1
    · rw [if_neg hk] at e1 e2
      obtain ⟨w, q1, q2⟩ := h.get e1
      rw [e2] at q1
      cases q1
      exact q2
theorem RpL.dropLast {ds : List D} {vs : List V} (h : RpL G M n ds vs) : RpL G M n ds.dropLast vs.dropLast := by
  rw [List.dropLast_eq_take, List.dropLast_eq_take, h.length]
  exact h.take _
theorem RpL.cut {ds : List D} {vs : List V} (lo hi : Option Int) (h : RpL G M n ds vs) : RpL G M n (cutD ds lo hi) (cutV vs lo hi) := by
  unfold cutD cutV
  rw [h.length]
  exact (h.drop _).take _
theorem RpL.ati {ds : List D} {vs : List V} {i : Int} {d : D} (h : RpL G M n ds vs) (e : atI ds i = some d) : ∃ v, atI vs i = some v ∧ Rp G M n d v := by
  unfold atI at e ⊢
  rw [← h.length]
  cases q : ixN ds.length i with
  | none => rw [q] at e; cases e
  | some j =>
    rw [q] at e
    obtain ⟨v, h1, h2⟩ := h.get (show ds[j]? = some d from e)
    exact ⟨v, h1, h2⟩

/-- more is finished, more stands in the store -/
structure Up (M M' : Mp) (n n' : Nat) : Prop where
  F : ∀ p o, M.F p = some o → M'.F p = some o
  le : n ≤ n'
  m : ∀ a, a < n → M'.m a = M.m a
theorem Up.refl : Up M M n n := ⟨fun _ _ h => h, Nat.le_refl _, fun _ _ => rfl⟩
theorem Up.trans {M2 : Mp} {n2 : Nat} (a : Up M M' n n') (b : Up M' M2 n' n2) : Up M M2 n n2 :=
  ⟨fun p o h => b.F p o (a.F p o h), Nat.le_trans a.le b.le, fun x h => (b.m x (Nat.lt_of_lt_of_le h a.le)).trans (a.m x h)⟩
theorem rd_up {H H' : Hp} (h : ∀ p o, H p = some o → H' p = some o) {a : Addr} {u : HO} (r : Rd H a u) : Rd H' a u := by
  rcases r with r | ⟨o, r⟩
  · exact .inl (h _ _ r)
  · exact .inr ⟨o, h _ _ r⟩
theorem sqT_up {K : PySem.W.Frag} {H H' : Hp} (h : ∀ p o, H p = some o → H' p = some o) {a : Addr} {xs : List V} (r : SqT K H a xs) : SqT K H' a xs := by
  rcases r with r | r
  · exact .inl (rd_up h r)
  · exact .inr r
theorem tupAt_up {K : PySem.W.Frag} {H H' : Hp} (h : ∀ p o, H p = some o → H' p = some o) {a : Addr} {xs : List V} (r : TupAt K H a xs) : TupAt K H' a xs := by
  rcases r with r | ⟨r, n⟩
  · exact .inl (h _ _ r)
  · exact .inr ⟨sqT_up h r, n⟩
theorem sqL_up {K : PySem.W.Frag} {H H' : Hp} (h : ∀ p o, H p = some o → H' p = some o) {a : Addr} {xs : List V} (r : SqL K H a xs) : SqL K H' a xs := by
  rcases r with r | r
  · exact .inl (rd_up h r)
  · exact .inr r
mutual
theorem Rp.up (u : Up M M' n n') : ∀ {d : D} {v : V}, Rp G M n d v → Rp G M' n' d v
  | .non, _, h => h
  | .bl _, _, h => h
  | .int _, _, h => h
  | .str _, _, h => h
  | .tup l, _, h => by
    obtain ⟨p, vs, e, s, t⟩ := h
    exact ⟨p, vs, e, tupAt_up u.F s, RpL.up u t⟩
  | .lst l, _, h => by
    obtain ⟨p, vs, e, s, t⟩ := h
    exact ⟨p, vs, e, u.F _ _ s, RpL.up u t⟩
  | .scr l, _, h => by
    obtain ⟨p, vs, e, s, t⟩ := h
    exact ⟨p, vs, e, sqL_up u.F s, RpL.up u t⟩
  | .obj c l, _, h => by
    obtain ⟨p, dx, vs, e, s, z, t⟩ := h
    exact ⟨p, dx, vs, e, u.F _ _ s, z, RpL.up u t⟩
  | .ref a, _, h => by
    obtain ⟨h1, h2⟩ := h
    exact ⟨Nat.lt_of_lt_of_le h1 u.le, by rw [u.m a h1]; exact h2⟩
  | .dic, _, h => by
    obtain ⟨p, e, s⟩ := h
    exact ⟨p, e, u.F _ _ s⟩
theorem RpL.up (u : Up M M' n n') : ∀ {ds : List D} {vs : List V}, RpL G M n ds vs → RpL G M' n' ds vs
  | [], _, h => h
  | d :: ds, _, h => by
    obtain ⟨v, r, e, hv, t⟩ := h
    exact ⟨v, r, e, Rp.up u hv, RpL.up u t⟩
end
mutual
/-- what refers to nothing behind k, told with k objects -/
theorem Rp.down {k : Nat} : ∀ {d : D} {v : V}, Rp G M n d v → D.bdd k d = true → Rp G M k d v
  | .non, _, h, _ => h
  | .bl _, _, h, _ => h
  | .int _, _, h, _ => h
  | .str _, _, h, _ => h
  | .tup l, _, h, b => by
    obtain ⟨p, vs, e, s, t⟩ := h
    exact ⟨p, vs, e, s, RpL.down t b⟩
  | .lst l, _, h, b => by
    obtain ⟨p, vs, e, s, t⟩ := h
    exact ⟨p, vs, e, s, RpL.down t b⟩
  | .scr l, _, h, b => by
    obtain ⟨p, vs, e, s, t⟩ := h
    exact ⟨p, vs, e, s, RpL.down t b⟩
  | .obj c l, _, h, b => by
    obtain ⟨p, dx, vs, e, s, z, t⟩ := h
    exact ⟨p, dx, vs, e, s, z, RpL.down t b⟩
  | .ref a, _, h, b => ⟨of_decide_eq_true b, h.2⟩
  | .dic, _, h, _ => h
theorem RpL.down {k : Nat} : ∀ {ds : List D} {vs : List V}, RpL G M n ds vs → D.bddL k ds = true → RpL G M k ds vs
  | [], _, h, _ => h
  | d :: ds, _, h, b => by
    obtain ⟨v, r, e, hv, t⟩ := h
    have b' : (D.bdd k d && D.bddL k ds) = true := b
    rw [Bool.and_eq_true] at b'
    exact ⟨v, r, e, Rp.down hv b'.1, RpL.down t b'.2⟩
end
mutual
theorem Rp.bdd : ∀ {d : D} {v : V}, Rp G M n d v → D.bdd n d = true
  | .non, _, _ => rfl
  | .bl _, _, _ => rfl
  | .int _, _, _ => rfl
  | .str _, _, _ => rfl
  | .tup l, _, h => by
    obtain ⟨p, vs, e, s, t⟩ := h
    exact RpL.bdd t
  | .lst l, _, h => by
    obtain ⟨p, vs, e, s, t⟩ := h
    exact RpL.bdd t
  | .scr l, _, h => by
    obtain ⟨p, vs, e, s, t⟩ := h
    exact RpL.bdd t
  | .obj c l, _, h => by
    obtain ⟨p, dx, vs, e, s, z, t⟩ := h
    exact RpL.bdd t
  | .ref a, _, h => decide_eq_true h.1
  | .dic, _, _ => rfl
theorem RpL.bdd : ∀ {ds : List D} {vs : List V}, RpL G M n ds vs → D.bddL n ds = true
  | [], _, _ => rfl
  | d :: ds, _, h => by
    obtain ⟨v, r, e, hv, t⟩ := h
    show (D.bdd n d && D.bddL n ds) = true
    rw [Rp.bdd hv, RpL.bdd t] <;> rfl
end

/-! ### the store -/
def ObjR (G : Gx) (M : Mp) (n : Nat) : SO → Option HO → Prop
  | .lst l, x => ∃ vs, x = some (.lst vs) ∧ RpL G M n l vs
  | .ins c l, x => ∃ dx vs, x = some (.ins (G.cA c) dx ((G.cN c).zip vs)) ∧ l.length ≤ (G.cN c).length ∧ RpL G M n l vs
  | .dct ks, x => x = some (.dT (ks.map fun k => (k.map Sum.inl, V.bl true))) ∧ ks.length ≤ 16777216
theorem ObjR.up (u : Up M M' n n') {o : SO} {x : Option HO} (h : ObjR G M n o x) : ObjR G M' n' o x := by
  cases o with
  | lst l =>
    obtain ⟨vs, e, t⟩ := h
    exact ⟨vs, e, t.up u⟩
  | ins c l =>
    obtain ⟨dx, vs, e, z, t⟩ := h
    exact ⟨dx, vs, e, z, t.up u⟩
  | dct ks => exact h
/-- what the store holds is no tuple -/
theorem ObjR.ntup {o : SO} {x : Option HO} (h : ObjR G M n o x) : ∀ l, x ≠ some (.tup l) := fun l e => by
  cases o with
  | lst l => obtain ⟨vs, e1, _⟩ := h; rw [e1] at e; cases e
  | ins c l => obtain ⟨dx, vs, e1, _⟩ := h; rw [e1] at e; cases e
  | dct ks => obtain ⟨e1, _⟩ := h; rw [e1] at e; cases e
theorem ObjR.some {o : SO} {x : Option HO} (h : ObjR G M n o x) : ∃ u, x = some u := by
  cases o with
  | lst l => obtain ⟨vs, e1, _⟩ := h; exact ⟨_, e1⟩
  | ins c l => obtain ⟨dx, vs, e1, _⟩ := h; exact ⟨_, e1⟩
  | dct ks => exact ⟨_, h.1⟩
structure Rel (G : Gx) (M : Mp) (S : Store) (H : Hp) : Prop where
  sub : ∀ p o, M.F p = some o → H p = some o
  inj : ∀ a b, a < S.length → b < S.length → M.m a = M.m b → a = b
  obj : ∀ (a : Nat) (o : SO), S[a]? = some o → ObjR G M S.length o (H (M.m a)) ∧ M.F (M.m a) = none
  tup : ∀ p l, H p = some (.tup l) → M.F p = some (.tup l)
/-- from one moment to a later one; what is nobody's stays as it is and nobody's -/
structure Ext (M : Mp) (S : Store) (H : Hp) (M' : Mp) (S' : Store) (H' : Hp) : Prop where
  up : Up M M' S.length S'.length
  fgn : ∀ p o, H p = some o → M.F p = none → (∀ a, a < S.length → M.m a ≠ p) → H' p = some o ∧ M'.F p = none ∧ ∀ a, a < S'.length → M'.m a ≠ p
theorem Ext.refl {S : Store} {H : Hp} : Ext M S H M S H := ⟨.refl, fun p o h1 h2 h3 => ⟨h1, h2, h3⟩⟩
theorem Ext.trans {M2 : Mp} {S S' S2 : Store} {H H' H2 : Hp} (a : Ext M S H M' S' H') (b : Ext M' S' H' M2 S2 H2) : Ext M S H M2 S2 H2 :=
  ⟨a.up.trans b.up, fun p o h1 h2 h3 => let ⟨q1, q2, q3⟩ := a.fgn p o h1 h2 h3; b.fgn p o q1 q2 q3⟩

/-! ### the names -/
def SlotR (G : Gx) (M : Mp) (S : Store) (H : Hp) (x : Option (Option V)) : Slot → Prop
  | .un => True
  | .val d => ∃ v, x = some (some v) ∧ Rp G M S.length d v
  | .own l => ∃ p vs, x = some (some (.ref p)) ∧ H p = some (.lst vs) ∧ RpL G M S.length l vs ∧ M.F p = none ∧ ∀ a, a < S.length → M.m a ≠ p
structure EnvR (G : Gx) (M : Mp) (S : Store) (H : Hp) (σ : L2.St) (ρ : Env) : Prop where
  len : ρ.length = σ.length
  sl : ∀ (i : Nat) (s : Slot), ρ[i]? = some s → SlotR G M S H σ[i]? s
  ap : ∀ (i j : Nat) (l l' : List D) (p : Addr), ρ[i]? = some (.own l) → ρ[j]? = some (.own l') → σ[i]? = some (some (.ref p)) → σ[j]? = some (some (.ref p)) → i = j
theorem EnvR.ext {S S' : Store} {H H' : Hp} {σ : L2.St} {ρ : Env} (e : EnvR G M S H σ ρ) (x : Ext M S H M' S' H') : EnvR G M' S' H' σ ρ := by
  refine ⟨e.len, fun i s hs => ?_, e.ap⟩
  have q := e.sl i s hs
  cases s with
  | un => exact True.intro
  | val d =>
    obtain ⟨v, h1, h2⟩ := q
    exact ⟨v, h1, h2.up x.up⟩
  | own l =>
    obtain ⟨p, vs, h1, h2, h3, h4, h5⟩ := q
    obtain ⟨q1, q2, q3⟩ := x.fgn p _ h2 h4 h5
    exact ⟨p, vs, h1, q1, h3.up x.up, q2, q3⟩
theorem EnvR.getV {S : Store} {H : Hp} {σ : L2.St} {ρ : Env} {i : Nat} {d : D} (e : EnvR G M S H σ ρ) (h : getV ρ i = some d) : ∃ v, σ[i]? = some (some v) ∧ Rp G M S.length d v := by
  unfold HN.getV at h
  split at h
  · rename_i d' q
    cases h
    exact e.sl i _ q
  · cases h
theorem EnvR.getO {S : Store} {H : Hp} {σ : L2.St} {ρ : Env} {i : Nat} {l : List D} (e : EnvR G M S H σ ρ) (h : getO ρ i = some l) :
    ρ[i]? = some (.own l) ∧ ∃ p vs, σ[i]? = some (some (.ref p)) ∧ H p = some (.lst vs) ∧ RpL G M S.length l vs ∧ M.F p = none ∧ ∀ a, a < S.length → M.m a ≠ p := by
  unfold HN.getO at h
  split at h
  · rename_i d' q
    cases h
    exact ⟨q, e.sl i _ q⟩
  · cases h
/-- a value is stored in a name -/
theorem EnvR.putV {S : Store} {H : Hp} {σ : L2.St} {ρ : Env} {i : Nat} {d : D} {v : V} (e : EnvR G M S H σ ρ) (hi : i < ρ.length) (h : Rp G M S.length d v) : EnvR G M S H (σ.set i (some v)) (putV ρ i d) := by
  have hs : i < σ.length := by rw [← e.len]; exact hi
  unfold HN.putV
  refine ⟨by rw [List.length_set, List.length_set, e.len], fun j s hj => ?_, fun j k l l' p h1 h2 h3 h4 => ?_⟩
  · by_cases q : i = j
    · subst q
      rw [List.getElem?_set_self hi] at hj
      cases hj
      rw [List.getElem?_set_self hs]
      exact ⟨v, rfl, h⟩
    · rw [List.getElem?_set_ne q] at hj ⊢
      exact e.sl j s hj
  · have n1 : i ≠ j := by
      rintro rfl
      rw [List.getElem?_set_self hi] at h1
      cases h1
    have n2 : i ≠ k := by
      rintro rfl
      rw [List.getElem?_set_self hi] at h2
      cases h2
    rw [List.getElem?_set_ne n1] at h1 h3
    rw [List.getElem?_set_ne n2] at h2 h4
    exact e.ap j k l l' p h1 h2 h3 h4
/-- a name holds a list of its own -/
theorem EnvR.putO {S : Store} {H : Hp} {σ : L2.St} {ρ : Env} {i : Nat} {l : List D} {p : Addr} {vs : List V} (e : EnvR G M S H σ ρ) (hi : i < ρ.length) (hp : H p = some (.lst vs)) (h : RpL G M S.length l vs) (hF : M.F p = none) (hm : ∀ a, a < S.length → M.m a ≠ p)
    (no : ∀ (j : Nat) (l' : List D), ρ[j]? = some (.own l') → σ[j]? ≠ some (some (.ref p))) : EnvR G M S H (σ.set i (some (.ref p))) (ρ.set i (.own l)) := by
  have hs : i < σ.length := by rw [← e.len]; exact hi
  refine ⟨by rw [List.length_set, List.length_set, e.len], fun j s hj => ?_, fun j k l1 l2 q h1 h2 h3 h4 => ?_⟩
  · by_cases q : i = j
    · subst q
      rw [List.getElem?_set_self hi] at hj
      cases hj
      rw [List.getElem?_set_self hs]
      exact ⟨p, vs, rfl, hp, h, hF, hm⟩
    · rw [List.getElem?_set_ne q] at hj ⊢
      exact e.sl j s hj
  · by_cases n1 : i = j
    · by_cases n2 : i = k
      · exact n1.symm.trans n2
      · subst n1
        rw [List.getElem?_set_self hs] at h3
        cases h3
        rw [List.getElem?_set_ne n2] at h2 h4
        exact absurd h4 (no k l2 h2)
    · by_cases n2 : i = k
      · subst n2
        rw [List.getElem?_set_self hs] at h4
        cases h4
        rw [List.getElem?_set_ne n1] at h1 h3
        exact absurd h3 (no j l1 h1)
      · rw [List.getElem?_set_ne n1] at h1 h3
        rw [List.getElem?_set_ne n2] at h2 h4
        exact e.ap j k l1 l2 q h1 h2 h3 h4

/-! ### new objects -/
/-- a new finished object -/
theorem rel_fin {S : Store} {H : Hp} {p : Addr} {o : HO} (r : Rel G M S H) (hp : H p = none) : Rel G ⟨upd M.F p o, M.m⟩ S (upd H p o) ∧ Ext M S H ⟨upd M.F p o, M.m⟩ S (upd H p o) := by
  have nF : M.F p = none := by
    cases q : M.F p with
    | none => rfl
    | some u => rw [r.sub p u q] at hp; cases hp
  have nm : ∀ a, a < S.length → M.m a ≠ p := fun a ha e => by
    obtain ⟨h1, _⟩ := r.obj a _ (List.getElem?_eq_getElem ha)
    rw [e, hp] at h1
    obtain ⟨u, hu⟩ := h1.some
    cases hu
  have up : Up M ⟨upd M.F p o, M.m⟩ S.length S.length := ⟨fun b u q => by
    show upd M.F p o b = some u
    rw [upd_ne (ne_of_none q nF)]; exact q, Nat.le_refl _, fun _ _ => rfl⟩
  refine ⟨⟨fun b u q => ?_, r.inj, fun a u ha => ?_, fun b l q => ?_⟩, up, fun b u h1 h2 h3 => ?_⟩
  · have q' : upd M.F p o b = some u := q
    by_cases hb : b = p
    · subst hb
      rw [upd_same] at q' ⊢
      exact q'
    · rw [upd_ne hb] at q' ⊢
      exact r.sub b u q'
  · obtain ⟨h1, h2⟩ := r.obj a u ha
    have ha' : a < S.length := (List.getElem?_eq_some_iff.mp ha).1
    have ne := nm a ha'
    refine ⟨?_, ?_⟩
    · show ObjR G _ _ u (upd H p o (M.m a))
      rw [upd_ne ne]
      exact h1.up up
    · show upd M.F p o (M.m a) = none
      rw [upd_ne ne]
      exact h2
  · show upd M.F p o b = some (.tup l)
    by_cases hb : b = p
    · subst hb
      rw [upd_same] at q ⊢
      exact q
    · rw [upd_ne hb] at q ⊢
      exact r.tup b l q
  · have hb : b ≠ p := fun e => by rw [e, hp] at h1; cases h1
    exact ⟨by rw [upd_ne hb]; exact h1, by show upd M.F p o b = none; rw [upd_ne hb]; exact h2, h3⟩
/-- a new object that is nobody's yet -/
theorem rel_free {S : Store} {H : Hp} {p : Addr} {o : HO} (r : Rel G M S H) (hp : H p = none) (ho : ∀ l, o ≠ .tup l := by exact fun l e => by cases e) : Rel G M S (upd H p o) ∧ Ext M S H M S (upd H p o) ∧ M.F p = none ∧ ∀ a, a < S.length → M.m a ≠ p := by
  have nF : M.F p = none := by
    cases q : M.F p with
    | none => rfl
    | some u => rw [r.sub p u q] at hp; cases hp
  have nm : ∀ a, a < S.length → M.m a ≠ p := fun a ha e => by
    obtain ⟨h1, _⟩ := r.obj a _ (List.getElem?_eq_getElem ha)
    rw [e, hp] at h1
    obtain ⟨u, hu⟩ := h1.some
    cases hu
  refine ⟨⟨fun b u q => ?_, r.inj, fun a u ha => ?_, fun b l q => ?_⟩, ⟨.refl, fun b u h1 h2 h3 => ⟨?_, h2, h3⟩⟩, nF, nm⟩
  · rw [upd_ne (ne_of_none q nF)]; exact r.sub b u q
  · obtain ⟨h1, h2⟩ := r.obj a u ha
    rw [upd_ne (nm a (List.getElem?_eq_some_iff.mp ha).1)]
    exact ⟨h1, h2⟩
  · by_cases hb : b = p
    · subst hb
      rw [upd_same] at q
      exact absurd (Option.some.inj q) (ho l)
    · rw [upd_ne hb] at q
      exact r.tup b l q
  · rw [upd_ne (fun e => by rw [e, hp] at h1; cases h1)]; exact h1
/-- what is nobody's is changed -/
theorem rel_chg {S : Store} {H : Hp} {p : Addr} {o : HO} (r : Rel G M S H) (nF : M.F p = none) (nm : ∀ a, a < S.length → M.m a ≠ p) (ho : ∀ l, o ≠ .tup l := by exact fun l e => by cases e) : Rel G M S (upd H p o) := by
  refine ⟨fun b u q => ?_, r.inj, fun a u ha => ?_, fun b l q => ?_⟩
  · rw [upd_ne (ne_of_none q nF)]; exact r.sub b u q
  · obtain ⟨h1, h2⟩ := r.obj a u ha
    rw [upd_ne (nm a (List.getElem?_eq_some_iff.mp ha).1)]
    exact ⟨h1, h2⟩
  · by_cases hb : b = p
    · subst hb
      rw [upd_same] at q
      exact absurd (Option.some.inj q) (ho l)
    · rw [upd_ne hb] at q
      exact r.tup b l q
/-- what is nobody's becomes finished -/
theorem rel_freeze {S : Store} {H : Hp} {p : Addr} {o : HO} (r : Rel G M S H) (hp : H p = some o) (nF : M.F p = none) (nm : ∀ a, a < S.length → M.m a ≠ p) : Rel G ⟨upd M.F p o, M.m⟩ S H ∧ Up M ⟨upd M.F p o, M.m⟩ S.length S.length := by
  have up : Up M ⟨upd M.F p o, M.m⟩ S.length S.length := ⟨fun b u q => by
    show upd M.F p o b = some u
    rw [upd_ne (ne_of_none q nF)]; exact q, Nat.le_refl _, fun _ _ => rfl⟩
  refine ⟨⟨fun b u q => ?_, r.inj, fun a u ha => ?_, fun b l q => up.F b _ (r.tup b l q)⟩, up⟩
  · have q' : upd M.F p o b = some u := q
    by_cases hb : b = p
    · subst hb
      rw [upd_same] at q'
      rw [← q']
      exact hp
    · rw [upd_ne hb] at q'
      exact r.sub b u q'
  · obtain ⟨h1, h2⟩ := r.obj a u ha
    refine ⟨h1.up up, ?_⟩
    show upd M.F p o (M.m a) = none
    rw [upd_ne (nm a (List.getElem?_eq_some_iff.mp ha).1)]
    exact h2
def Mp.push (M : Mp) (n : Nat) (p : Addr) : Mp := ⟨M.F, fun a => if a = n then p else M.m a⟩
/-- what is nobody's becomes the store's -/
theorem rel_share {S : Store} {H : Hp} {p : Addr} {o : SO} (r : Rel G M S H) (hp : ObjR G M S.length o (H p)) (nF : M.F p = none) (nm : ∀ a, a < S.length → M.m a ≠ p) :
    Rel G (M.push S.length p) (S ++ [o]) H ∧ Up M (M.push S.length p) S.length (S ++ [o]).length ∧ (M.push S.length p).m S.length = p := by
  have pm : ∀ a, a < S.length → (M.push S.length p).m a = M.m a := fun a ha => by
    show (if a = S.length then p else M.m a) = M.m a
    rw [if_neg (Nat.ne_of_lt ha)]
  have pn : (M.push S.length p).m S.length = p := by
    show (if S.length = S.length then p else M.m S.length) = p
    rw [if_pos rfl]
  have hl : (S ++ [o]).length = S.length + 1 := by simp
  have up : Up M (M.push S.length p) S.length (S ++ [o]).length := ⟨fun b u q => q, by rw [hl]; exact Nat.le_succ _, pm⟩
  refine ⟨⟨r.sub, fun a b ha hb e => ?_, fun a u ha => ?_, r.tup⟩, up, pn⟩
  · rw [hl] at ha hb
    by_cases h1 : a = S.length
    · by_cases h2 : b = S.length
      · rw [h1, h2]
      · subst h1
        have hb' : b < S.length := by omega
        rw [pn, pm b hb'] at e
        exact absurd e.symm (nm b hb')
    · have ha' : a < S.length := by omega
      by_cases h2 : b = S.length
      · subst h2
        rw [pn, pm a ha'] at e
        exact absurd e (nm a ha')
      · have hb' : b < S.length := by omega
        rw [pm a ha', pm b hb'] at e
        exact r.inj a b ha' hb' e
  · by_cases h1 : a < S.length
    · rw [List.getElem?_append_left h1] at ha
      obtain ⟨q1, q2⟩ := r.obj a u ha
      rw [pm a h1]
      exact ⟨q1.up up, q2⟩
    · have e : a = S.length := by
        have := (List.getElem?_eq_some_iff.mp ha).1
        rw [hl] at this
        omega
      subst e
      rw [List.getElem?_append_right (Nat.le_refl _), Nat.sub_self] at ha
      have e2 : o = u := by simpa using ha
      subst e2
      rw [pn]
      exact ⟨hp.up up, nF⟩
/-- a new object of the store -/
theorem rel_new {S : Store} {H : Hp} {p : Addr} {o : SO} {u : HO} (r : Rel G M S H) (hp : H p = none) (ho : ObjR G M S.length o (some u)) (nt : ∀ l, u ≠ .tup l) :
    Rel G (M.push S.length p) (S ++ [o]) (upd H p u) ∧ Ext M S H (M.push S.length p) (S ++ [o]) (upd H p u) ∧ (M.push S.length p).m S.length = p := by
  obtain ⟨r1, x1, nF, nm⟩ := rel_free (o := u) r hp nt
  obtain ⟨r2, up, e⟩ := rel_share (o := o) (p := p) r1 (by rw [upd_same]; exact ho) nF nm
  refine ⟨r2, ⟨up, fun b x h1 h2 h3 => ⟨(x1.fgn b x h1 h2 h3).1, h2, fun a ha => ?_⟩⟩, e⟩
  by_cases h : a = S.length
  · subst h
    rw [e]
    exact fun z => by rw [z, h1] at hp; cases hp
  · show (if a = S.length then p else M.m a) ≠ b
    rw [if_neg h]
    exact h3 a (by rw [List.length_append] at ha; simp only [List.length_cons, List.length_nil] at ha; omega)
/-- an object of the store is changed -/
theorem rel_set {S : Store} {H : Hp} {a : Nat} {o : SO} {u : HO} (r : Rel G M S H) (ha : a < S.length) (ho : ObjR G M S.length o (some u)) : Rel G M (S.set a o) (upd H (M.m a) u) ∧ Ext M S H M (S.set a o) (upd H (M.m a) u) := by
  have hl : (S.set a o).length = S.length := List.length_set
  have nF : M.F (M.m a) = none := (r.obj a _ (List.getElem?_eq_getElem ha)).2
  refine ⟨⟨fun b x q => ?_, fun x y hx hy => r.inj x y (by rw [← hl]; exact hx) (by rw [← hl]; exact hy), fun b x hb => ?_, fun b l q => ?_⟩, ⟨⟨fun _ _ q => q, by rw [hl]; exact Nat.le_refl _, fun _ _ => rfl⟩, fun p x h1 h2 h3 => ⟨?_, h2, fun c hc => h3 c (by rw [← hl]; exact hc)⟩⟩⟩
  · rw [upd_ne (ne_of_none q nF)]; exact r.sub b x q
  · have hb' : b < S.length := by
      have := (List.getElem?_eq_some_iff.mp hb).1
      rw [hl] at this
      exact this
    rw [hl]
    by_cases e : a = b
    · subst e
      rw [List.getElem?_set_self ha] at hb
      cases hb
      rw [upd_same]
      exact ⟨ho, nF⟩
    · rw [List.getElem?_set_ne e] at hb
      obtain ⟨q1, q2⟩ := r.obj b x hb
      rw [upd_ne (fun z => e (r.inj a b ha hb' z.symm))]
      exact ⟨q1, q2⟩
  · by_cases hb : b = M.m a
    · subst hb
      rw [upd_same] at q
      exact absurd q (ho.ntup l)
    · rw [upd_ne hb] at q
      exact r.tup b l q
  · rw [upd_ne (Ne.symm (h3 a ha))]; exact h1
/-- what was made and left behind is forgotten -/
theorem rel_gc {S S' : Store} {H H' : Hp} (r : Rel G M S H) (x : Ext M S H M' S' H') (r' : Rel G M' S' H') (e : S'.take S.length = S) : Rel G M' S H' ∧ Ext M S H M' S H' := by
  have at' : ∀ (a : Nat) (o : SO), S[a]? = some o → S'[a]? = some o := fun a o ha => by
    have h1 : a < S.length := (List.getElem?_eq_some_iff.mp ha).1
    have h2 : (S'.take S.length)[a]? = some o := by rw [e]; exact ha
    rw [List.getElem?_take, if_pos h1] at h2
    exact h2
  have le := x.up.le
  refine ⟨⟨r'.sub, fun a b ha hb => r'.inj a b (Nat.lt_of_lt_of_le ha le) (Nat.lt_of_lt_of_le hb le), fun a o ha => ?_, r'.tup⟩, ⟨x.up.F, Nat.le_refl _, x.up.m⟩, fun p o h1 h2 h3 => ?_⟩
  · obtain ⟨q1, q2⟩ := r'.obj a o (at' a o ha)
    refine ⟨?_, q2⟩
    obtain ⟨q3, _⟩ := r.obj a o ha
    cases o with
    | lst l =>
      obtain ⟨vs, e1, t⟩ := q1
      obtain ⟨vs0, _, t0⟩ := q3
      exact ⟨vs, e1, t.down t0.bdd⟩
    | ins c l =>
      obtain ⟨dx, vs, e1, z, t⟩ := q1
      obtain ⟨dx0, vs0, _, _, t0⟩ := q3
      exact ⟨dx, vs, e1, z, t.down t0.bdd⟩
    | dct ks => exact q1
  · obtain ⟨q1, q2, q3⟩ := x.fgn p o h1 h2 h3
    exact ⟨q1, q2, fun a ha => q3 a (Nat.lt_of_lt_of_le ha le)⟩
end
end HN

/-! The operators of HN, by the rules of HandS. -/
namespace HN
open PySem L2

theorem nn {α : Type} {d : α} {C : Prop} (h : (none : Option α) = some d) : C := nomatch h
theorem nb {C : Prop} (h : false = true) : C := nomatch h
/-! ### weaker readings -/
section
variable {X : Cx}
theorem pe_weak {e : Expr} {t t' : TE} (h : PE X e t) (i : ∀ σ H Q, t' σ H Q → t σ H Q) : PE X e t' := ⟨fun pins s σ H Q I q => h.run pins s σ H Q I (i _ _ _ q)⟩
theorem pt_weak {e : Expr} {t t' : TT} (h : PT X e t) (i : ∀ σ H Q, t' σ H Q → t σ H Q) : PT X e t' := ⟨fun pins s σ H Q I q => h.run pins s σ H Q I (i _ _ _ q)⟩
theorem pw_weak {e : Expr} {t t' : TT} (h : PW X e t) (i : ∀ σ H Q, t' σ H Q → t σ H Q) : PW X e t' := ⟨fun wh pins s σ H Q I q => h.run wh pins s σ H Q I (i _ _ _ q)⟩
theorem pa_weak {e : List Expr} {t t' : TA} (h : PA X e t) (i : ∀ σ H Q, t' σ H Q → t σ H Q) : PA X e t' := ⟨fun pos pins s σ H Q I q => h.run pos pins s σ H Q I (i _ _ _ q)⟩
theorem ps_weak {e : Stmt} {t t' : TS} (h : PS X e t) (i : ∀ D σ H, t' D σ H → t D σ H) : PS X e t' := ⟨fun pins s σ H D I q => h.run pins s σ H D I (i _ _ _ q)⟩
theorem pss_weak {e : List Stmt} {t t' : TS} (h : PSs X e t) (i : ∀ D σ H, t' D σ H → t D σ H) : PSs X e t' := ⟨fun pins s σ H D I q => h.run pins s σ H D I (i _ _ _ q)⟩
end

/-! ### data -/
mutual
theorem eqv_py : ∀ (a b : D), D.data a = true → D.data b = true → PyData.eqv (toPy a) (toPy b) = D.eqv a b
  | .non, b, _, hb => by cases b <;> first | rfl | cases hb
  | .bl x, b, _, hb => by cases b <;> first | rfl | cases hb
  | .int i, b, _, hb => by cases b <;> first | rfl | cases hb
  | .str s, b, _, hb => by cases b <;> first | rfl | cases hb
  | .tup l, b, ha, hb => by
    cases b with
    | tup l' => exact eqv_pyL l l' ha hb
    | _ => first | rfl | cases hb
  | .lst l, b, ha, hb => by
    cases b with
    | lst l' => exact eqv_pyL l l' ha hb
    | _ => first | rfl | cases hb
  | .scr _, _, ha, _ => by cases ha
  | .obj _ _, _, ha, _ => by cases ha
  | .ref _, _, ha, _ => by cases ha
  | .dic, _, ha, _ => by cases ha
theorem eqv_pyL : ∀ (a b : List D), D.dataL a = true → D.dataL b = true → PyData.eqvAll (toPyL a) (toPyL b) = D.eqvL a b
  | [], [], _, _ => rfl
  | [], _ :: _, _, _ => rfl
  | _ :: _, [], _, _ => rfl
  | x :: xs, y :: ys, ha, hb => by
    have ha' : (D.data x && D.dataL xs) = true := ha
    have hb' : (D.data y && D.dataL ys) = true := hb
    rw [Bool.and_eq_true] at ha' hb'
    show (PyData.eqv (toPy x) (toPy y) && PyData.eqvAll (toPyL xs) (toPyL ys)) = (D.eqv x y && D.eqvL xs ys)
    rw [eqv_py x y ha'.1 hb'.1, eqv_pyL xs ys ha'.2 hb'.2]
end
mutual
theorem dep_py : ∀ (a : D), D.data a = true → (toPy a).depth = D.dep a
  | .non, _ => rfl
  | .bl _, _ => rfl
  | .int _, _ => rfl
  | .str _, _ => rfl
  | .tup l, h => congrArg (· + 1) (dep_pyL l h)
  | .lst l, h => congrArg (· + 1) (dep_pyL l h)
  | .scr _, h => by cases h
  | .obj _ _, h => by cases h
  | .ref _, h => by cases h
  | .dic, h => by cases h
theorem dep_pyL : ∀ (a : List D), D.dataL a = true → PyData.depthAll (toPyL a) = D.depL a
  | [], _ => rfl
  | x :: xs, h => by
    have h' : (D.data x && D.dataL xs) = true := h
    rw [Bool.and_eq_true] at h'
    show max (toPy x).depth (PyData.depthAll (toPyL xs)) = max (D.dep x) (D.depL xs)
    rw [dep_py x h'.1, dep_pyL xs h'.2]
end
section
variable {G : Gx} {M : Mp} {n : Nat} {H : Hp}
mutual
theorem dp_of (sub : ∀ p o, M.F p = some o → H p = some o) : ∀ {d : D} {v : V}, D.data d = true → Rp G M n d v → Dp G.K H v (toPy d)
  | .non, _, _, h => by cases h; exact .non
  | .bl _, _, _, h => by cases h; exact .bl _
  | .int _, _, _, h => by cases h; exact .int _
  | .str _, _, _, h => by
    obtain ⟨e, _⟩ := h
    rw [e]; exact .str _
  | .tup l, _, q, h => by
    obtain ⟨p, vs, e, s, t⟩ := h
    rw [e]; exact .tup (sqT_up sub s.sq) (dp_ofL sub q t)
  | .lst l, _, q, h => by
    obtain ⟨p, vs, e, s, t⟩ := h
    rw [e]; exact .lst (SqL.of (sub _ _ s)) (dp_ofL sub q t)
  | .scr _, _, q, _ => by cases q
  | .obj _ _, _, q, _ => by cases q
  | .ref _, _, q, _ => by cases q
  | .dic, _, q, _ => by cases q
theorem dp_ofL (sub : ∀ p o, M.F p = some o → H p = some o) : ∀ {ds : List D} {vs : List V}, D.dataL ds = true → RpL G M n ds vs → DpAll G.K H vs (toPyL ds)
  | [], _, _, h => by
    have e : _ = [] := h
    rw [e]; exact .nil
  | d :: ds, _, q, h => by
    obtain ⟨v, r, e, hv, t⟩ := h
    have q' : (D.data d && D.dataL ds) = true := q
    rw [Bool.and_eq_true] at q'
    rw [e]; exact .cons (dp_of sub q'.1 hv) (dp_ofL sub q'.2 t)
end
mutual
theorem lay_of : ∀ {d : D} {v : V}, D.data d = true → Rp G M n d v → (toPy d).canLay0 = true
  | .non, _, _, _ => rfl
  | .bl _, _, _, _ => rfl
  | .int _, _, _, _ => rfl
  | .str _, _, _, h => h.2.1
  | .tup l, _, q, h => by
    obtain ⟨p, vs, e, s, t⟩ := h
    exact lay_ofL (ds := l) q t
  | .lst l, _, q, h => by
    obtain ⟨p, vs, e, s, t⟩ := h
    exact lay_ofL (ds := l) q t
  | .scr _, _, q, _ => by cases q
  | .obj _ _, _, q, _ => by cases q
  | .ref _, _, q, _ => by cases q
  | .dic, _, q, _ => by cases q
theorem lay_ofL : ∀ {ds : List D} {vs : List V}, D.dataL ds = true → RpL G M n ds vs → PyData.canLayAll0 (toPyL ds) = true
  | [], _, _, _ => rfl
  | d :: ds, _, q, h => by
    obtain ⟨v, r, e, hv, t⟩ := h
    have q' : (D.data d && D.dataL ds) = true := q
    rw [Bool.and_eq_true] at q'
    show (PyData.canLay0 (toPy d) && PyData.canLayAll0 (toPyL ds)) = true
    rw [lay_of q'.1 hv, lay_ofL q'.2 t] <;> rfl
end
end

/-! ### two-place operators: what a rule must give -/
/-- r gives what g says, wherever g says something -/
def R2ok (G : Gx) (g : Store → D → D → Option D) (r : R2) : Prop :=
  ∀ (M : Mp) (S : Store) (H : Hp) (x y : V) (a b d : D) (Q : VK), Rel G M S H → Rp G M S.length a x → Rp G M S.length b y → g S a b = some d →
    (∀ v M' H', Rel G M' S H' → Ext M S H M' S H' → Rp G M' S.length d v → Q v H') → r x y H Q
theorem opR_never {X : Cx} {f : Value → Value → Sem Value} : OpR X f (fun _ _ _ _ => False) := fun _ _ _ _ _ _ _ _ _ _ _ _ h => h.elim
section
variable {X : Cx} {G : Gx}
def rEq2 (K : PySem.W.Frag) : R2 := fun x y H Q => ∃ d e, Dp K H x d ∧ Dp K H y e ∧ PyData.canLay0 d = true ∧ PyData.canLay0 e = true ∧ min d.depth e.depth ≤ 64 ∧ Q (.bl (PyData.eqv d e)) H
theorem op_eq2 (hu : X.A.units + 64 < cLine) : OpR X (compareOp .Eq) (rEq2 X.K) := by
  intro pins s σ H x y v u Q I rx ry h
  obtain ⟨d, e, hd, he, sd, se, hm, q⟩ := h
  obtain ⟨as, r1⟩ := Dp.reads I d x v hd rx
  obtain ⟨bs, r2⟩ := Dp.reads I e y u he ry
  exact SeqAt.compareEq_reads r1 r2 sd se (by omega) ⟨.bl _, H, I, rfl, q⟩
def rNe2 (K : PySem.W.Frag) : R2 := fun x y H Q => ∃ d e, Dp K H x d ∧ Dp K H y e ∧ PyData.canLay0 d = true ∧ PyData.canLay0 e = true ∧ min d.depth e.depth ≤ 64 ∧ Q (.bl (!PyData.eqv d e)) H
theorem op_ne2 (hu : X.A.units + 64 < cLine) : OpR X (compareOp .NotEq) (rNe2 X.K) := by
  intro pins s σ H x y v u Q I rx ry h
  obtain ⟨d, e, hd, he, sd, se, hm, q⟩ := h
  obtain ⟨as, r1⟩ := Dp.reads I d x v hd rx
  obtain ⟨bs, r2⟩ := Dp.reads I e y u he ry
  exact SeqAt.compareNe_reads r1 r2 sd se (by omega) ⟨.bl _, H, I, rfl, q⟩
def rInX (K : PySem.W.Frag) : R2 := fun x y H Q => ∃ d ds, Dp K H x d ∧ (Dp K H y (.list ds) ∨ Dp K H y (.tuple ds)) ∧ PyData.canLay0 d = true ∧ PyData.canLayAll0 ds = true ∧ min (PyData.depthAll ds) d.depth ≤ 64 ∧ Q (.bl (ds.any fun z => PyData.eqv z d)) H
theorem op_inX (hu : X.A.units + 65 < cLine) : OpR X (compareOp .In) (rInX X.K) := by
  intro pins s σ H x y v u Q I rx ry h
  obtain ⟨d, ds, hd, he, sd, se, hm, q⟩ := h
  obtain ⟨as, r1⟩ := Dp.reads I d x v hd rx
  rcases he with he | he
  · obtain ⟨bs, r2⟩ := Dp.reads I (.list ds) y u he ry
    exact SeqAt.in_list_reads r2 r1 se sd (by omega) ⟨.bl _, H, I, rfl, q⟩
  · obtain ⟨bs, r2⟩ := Dp.reads I (.tuple ds) y u he ry
    exact SeqAt.in_tuple_reads r2 r1 se sd (by omega) ⟨.bl _, H, I, rfl, q⟩
def rNiX (K : PySem.W.Frag) : R2 := fun x y H Q => ∃ d ds, Dp K H x d ∧ (Dp K H y (.list ds) ∨ Dp K H y (.tuple ds)) ∧ PyData.canLay0 d = true ∧ PyData.canLayAll0 ds = true ∧ min (PyData.depthAll ds) d.depth ≤ 64 ∧ Q (.bl (!ds.any fun z => PyData.eqv z d)) H
theorem op_niX (hu : X.A.units + 65 < cLine) : OpR X (compareOp .NotIn) (rNiX X.K) := by
  intro pins s σ H x y v u Q I rx ry h
  obtain ⟨d, ds, hd, he, sd, se, hm, q⟩ := h
  obtain ⟨as, r1⟩ := Dp.reads I d x v hd rx
  rcases he with he | he
  · obtain ⟨bs, r2⟩ := Dp.reads I (.list ds) y u he ry
    exact SeqAt.notIn_list_reads r2 r1 se sd (by omega) ⟨.bl _, H, I, rfl, q⟩
  · obtain ⟨bs, r2⟩ := Dp.reads I (.tuple ds) y u he ry
    exact SeqAt.notIn_tuple_reads r2 r1 se sd (by omega) ⟨.bl _, H, I, rfl, q⟩
theorem any_py (x : D) (hx : D.data x = true) : ∀ l : List D, D.dataL l = true → ((toPyL l).any fun z => PyData.eqv z (toPy x)) = l.any fun y => D.eqv y x
  | [], _ => rfl
  | y :: ys, h => by
    have h' : (D.data y && D.dataL ys) = true := h
    rw [Bool.and_eq_true] at h'
    show (PyData.eqv (toPy y) (toPy x) || _) = (D.eqv y x || _)
    rw [eqv_py y x h'.1 hx, any_py x hx ys h'.2]
/-- comparisons -/
def gCmp (op : COp) : Store → D → D → Option D := fun _ a b => (cmpD op a b).map .bl
theorem eqD_some {a b : D} {k : Bool} (h : eqD a b = some k) : D.data a = true ∧ D.data b = true ∧ min (D.dep a) (D.dep b) ≤ 64 ∧ k = D.eqv a b := by
  unfold eqD at h
  split at h
  · rename_i c
    simp only [Bool.and_eq_true, decide_eq_true_eq] at c
    cases h
    exact ⟨c.1.1, c.1.2, c.2, rfl⟩
  · cases h
theorem inD_some {x : D} {l : List D} {k : Bool} (h : inD x l = some k) : D.data x = true ∧ D.dataL l = true ∧ min (D.depL l) (D.dep x) ≤ 64 ∧ k = l.any fun y => D.eqv y x := by
  unfold inD at h
  split at h
  · rename_i c
    simp only [Bool.and_eq_true, decide_eq_true_eq] at c
    cases h
    exact ⟨c.1.1, c.1.2, c.2, rfl⟩
  · cases h
theorem ok_eq : R2ok G (gCmp .eq) (rEq2 G.K) := by
  intro M S H x y a b d Q r ra rb h k
  have h' : (eqD a b).map D.bl = some d := h
  obtain ⟨c, hc, e⟩ := Option.map_eq_some_iff.mp h'
  obtain ⟨h1, h2, h3, h4⟩ := eqD_some hc
  refine ⟨toPy a, toPy b, dp_of r.sub h1 ra, dp_of r.sub h2 rb, lay_of h1 ra, lay_of h2 rb, by rw [dep_py a h1, dep_py b h2]; exact h3, ?_⟩
  rw [eqv_py a b h1 h2, ← h4]
  exact k _ M H r .refl (by rw [← e]; rfl)
theorem ok_ne : R2ok G (gCmp .ne) (rNe2 G.K) := by
  intro M S H x y a b d Q r ra rb h k
  have h' : ((eqD a b).map (!·)).map D.bl = some d := h
  obtain ⟨c, hc, e⟩ := Option.map_eq_some_iff.mp h'
  obtain ⟨c', hc', e'⟩ := Option.map_eq_some_iff.mp hc
  obtain ⟨h1, h2, h3, h4⟩ := eqD_some hc'
  refine ⟨toPy a, toPy b, dp_of r.sub h1 ra, dp_of r.sub h2 rb, lay_of h1 ra, lay_of h2 rb, by rw [dep_py a h1, dep_py b h2]; exact h3, ?_⟩
  rw [eqv_py a b h1 h2, ← h4]
  exact k _ M H r .refl (by rw [← e, ← e']; rfl)
theorem in_get {M : Mp} {S : Store} {H : Hp} {y : V} {b : D} {l : List D} (r : Rel G M S H) (rb : Rp G M S.length b y) (hl : D.dataL l = true) (hb : b = .lst l ∨ b = .tup l) :
    (Dp G.K H y (.list (toPyL l)) ∨ Dp G.K H y (.tuple (toPyL l))) ∧ PyData.canLayAll0 (toPyL l) = true := by
  rcases hb with e | e
  · subst e
    obtain ⟨p, vs, e, s, t⟩ := id rb
    exact ⟨.inl (dp_of r.sub (d := .lst l) hl rb), lay_ofL hl t⟩
  · subst e
    obtain ⟨p, vs, e, s, t⟩ := id rb
    exact ⟨.inr (dp_of r.sub (d := .tup l) hl rb), lay_ofL hl t⟩
theorem ok_in : R2ok G (gCmp .isIn) (rInX G.K) := by
  intro M S H x y a b d Q r ra rb h k
  have go : ∀ l, (b = .lst l ∨ b = .tup l) → (inD a l).map D.bl = some d → rInX G.K x y H Q := fun l hb h => by
    obtain ⟨c, hc, e⟩ := Option.map_eq_some_iff.mp h
    obtain ⟨h1, h2, h3, h4⟩ := inD_some hc
    obtain ⟨q1, q2⟩ := in_get r rb h2 hb
    refine ⟨toPy a, toPyL l, dp_of r.sub h1 ra, q1, lay_of h1 ra, q2, by rw [dep_py a h1, dep_pyL l h2]; exact h3, ?_⟩
    rw [any_py a h1 l h2, ← h4]
    exact k _ M H r .refl (by rw [← e]; rfl)
  cases b with
  | lst l => exact go l (.inl rfl) h
  | tup l => exact go l (.inr rfl) h
  | _ => exact nn h
theorem ok_ni : R2ok G (gCmp .notIn) (rNiX G.K) := by
  intro M S H x y a b d Q r ra rb h k
  have go : ∀ l, (b = .lst l ∨ b = .tup l) → ((inD a l).map (!·)).map D.bl = some d → rNiX G.K x y H Q := fun l hb h => by
    obtain ⟨c, hc, e⟩ := Option.map_eq_some_iff.mp h
    obtain ⟨c', hc', e'⟩ := Option.map_eq_some_iff.mp hc
    obtain ⟨h1, h2, h3, h4⟩ := inD_some hc'
    obtain ⟨q1, q2⟩ := in_get r rb h2 hb
    refine ⟨toPy a, toPyL l, dp_of r.sub h1 ra, q1, lay_of h1 ra, q2, by rw [dep_py a h1, dep_pyL l h2]; exact h3, ?_⟩
    rw [any_py a h1 l h2, ← h4]
    exact k _ M H r .refl (by rw [← e, ← e']; rfl)
  cases b with
  | lst l => exact go l (.inl rfl) h
  | tup l => exact go l (.inr rfl) h
  | _ => exact nn h
/-- two ints -/
theorem ok_int {g : Store → D → D → Option D} {C : Int → Int → Prop} {f : Int → Int → V} {fd : Int → Int → D}
    (hg : ∀ S a b d, g S a b = some d → ∃ i j, a = .int i ∧ b = .int j ∧ C i j ∧ d = fd i j) (hf : ∀ i j (M : Mp) (n : Nat), Rp G M n (fd i j) (f i j)) : R2ok G g (rI C f) := by
  intro M S H x y a b d Q r ra rb h k
  obtain ⟨i, j, e1, e2, hc, e3⟩ := hg S a b d h
  subst e1 e2 e3
  exact ⟨i, j, ra, rb, hc, k _ M H r .refl (hf i j M _)⟩
theorem ok_int0 {g : Store → D → D → Option D} {f : Int → Int → V} {fd : Int → Int → D}
    (hg : ∀ S a b d, g S a b = some d → ∃ i j, a = .int i ∧ b = .int j ∧ d = fd i j) (hf : ∀ i j (M : Mp) (n : Nat), Rp G M n (fd i j) (f i j)) : R2ok G g (rI0 f) := by
  intro M S H x y a b d Q r ra rb h k
  obtain ⟨i, j, e1, e2, e3⟩ := hg S a b d h
  subst e1 e2 e3
  exact ⟨i, j, ra, rb, k _ M H r .refl (hf i j M _)⟩
theorem ok_lt : R2ok G (gCmp .lt) (rI0 fun i j => .bl (decide (i < j))) := ok_int0 (fd := fun i j => .bl (decide (i < j))) (fun S a b d h => by
  cases a <;> cases b <;> first | exact nn h | skip
  rename_i i j
  exact ⟨i, j, rfl, rfl, (Option.some.inj h).symm⟩) fun _ _ _ _ => rfl
theorem ok_le : R2ok G (gCmp .le) (rI0 fun i j => .bl (decide (i ≤ j))) := ok_int0 (fd := fun i j => .bl (decide (i ≤ j))) (fun S a b d h => by
  cases a <;> cases b <;> first | exact nn h | skip
  rename_i i j
  exact ⟨i, j, rfl, rfl, (Option.some.inj h).symm⟩) fun _ _ _ _ => rfl
theorem ok_gt : R2ok G (gCmp .gt) (rI0 fun i j => .bl (decide (j < i))) := ok_int0 (fd := fun i j => .bl (decide (j < i))) (fun S a b d h => by
  cases a <;> cases b <;> first | exact nn h | skip
  rename_i i j
  exact ⟨i, j, rfl, rfl, (Option.some.inj h).symm⟩) fun _ _ _ _ => rfl
theorem ok_ge : R2ok G (gCmp .ge) (rI0 fun i j => .bl (decide (j ≤ i))) := ok_int0 (fd := fun i j => .bl (decide (j ≤ i))) (fun S a b d h => by
  cases a <;> cases b <;> first | exact nn h | skip
  rename_i i j
  exact ⟨i, j, rfl, rfl, (Option.some.inj h).symm⟩) fun _ _ _ _ => rfl
theorem non_iff {M : Mp} {n : Nat} {a : D} {x : V} (h : Rp G M n a x) : decide (x = V.non) = isNon a := by
  cases a with
  | non => cases h; rfl
  | bl _ => cases h; rfl
  | int _ => cases h; rfl
  | str _ => obtain ⟨e, _⟩ := h; rw [e]; rfl
  | tup _ => obtain ⟨p, vs, e, _⟩ := h; rw [e]; rfl
  | lst _ => obtain ⟨p, vs, e, _⟩ := h; rw [e]; rfl
  | scr _ => obtain ⟨p, vs, e, _⟩ := h; rw [e]; rfl
  | obj _ _ => obtain ⟨p, dx, vs, e, _⟩ := h; rw [e]; rfl
  | ref _ => obtain ⟨_, e⟩ := h; rw [e]; rfl
  | dic => obtain ⟨p, e, _⟩ := h; rw [e]; rfl
def rIs2 : R2 := fun x y H Q => (y = .non ∧ Q (.bl (decide (x = .non))) H) ∨ rIsB x y H Q
def rNis2 : R2 := fun x y H Q => (y = .non ∧ Q (.bl (!decide (x = .non))) H) ∨ rNotB x y H Q
theorem ok_is : R2ok G (gCmp .is) rIs2 := by
  intro M S H x y a b d Q r ra rb h k
  have h' : (isD a b).map D.bl = some d := h
  cases b with
  | non =>
    cases rb
    refine .inl ⟨rfl, ?_⟩
    rw [non_iff ra]
    exact k _ M H r .refl (by rw [← Option.some.inj h']; rfl)
  | bl j =>
    cases a with
    | bl i =>
      cases rb
      cases ra
      refine .inr ⟨i, j, rfl, rfl, ?_⟩
      exact k _ M H r .refl (by
        have e : D.bl (i == j) = d := Option.some.inj h'
        rw [← e]
        show V.bl (decide (i = j)) = V.bl (i == j)
        cases i <;> cases j <;> rfl)
    | _ => exact nn h'
  | _ => cases a <;> exact nn h'
theorem ok_nis : R2ok G (gCmp .isNot) rNis2 := by
  intro M S H x y a b d Q r ra rb h k
  have h' : ((isD a b).map (!·)).map D.bl = some d := h
  cases b with
  | non =>
    cases rb
    refine .inl ⟨rfl, ?_⟩
    rw [non_iff ra]
    exact k _ M H r .refl (by rw [← Option.some.inj h']; rfl)
  | bl j =>
    cases a with
    | bl i =>
      cases rb
      cases ra
      refine .inr ⟨i, j, rfl, rfl, ?_⟩
      exact k _ M H r .refl (by
        have e : D.bl (!(i == j)) = d := Option.some.inj h'
        rw [← e]
        show V.bl (!decide (i = j)) = V.bl (!(i == j))
        cases i <;> cases j <;> rfl)
    | _ => exact nn h'
  | _ => cases a <;> exact nn h'
/-- the comparison rule of each operator -/
def copB : COp → CmpOp → Bool
  | .eq, .Eq => true | .ne, .NotEq => true | .lt, .Lt => true | .le, .LtE => true | .gt, .Gt => true | .ge, .GtE => true
  | .is, .Is => true | .isNot, .IsNot => true | .isIn, .In => true | .notIn, .NotIn => true
  | _, _ => false
theorem cop_rule (hu : X.A.units + 65 < cLine) (hK : X.K = G.K) {op : COp} {o : CmpOp} (h : copB op o = true) : ∃ r, OpR X (compareOp o) r ∧ R2ok G (gCmp op) r := by
  cases op <;> cases o <;> first | exact nb h | skip
  · exact ⟨_, op_eq2 (by omega), by rw [hK]; exact ok_eq⟩
  · exact ⟨_, op_ne2 (by omega), by rw [hK]; exact ok_ne⟩
  · exact ⟨_, op_lt, ok_lt⟩
  · exact ⟨_, op_le, ok_le⟩
  · exact ⟨_, op_gt, ok_gt⟩
  · exact ⟨_, op_ge, ok_ge⟩
  · exact ⟨_, OpR.or op_isN op_isBl, ok_is⟩
  · exact ⟨_, OpR.or op_notN op_notBl, ok_nis⟩
  · exact ⟨_, op_inX hu, by rw [hK]; exact ok_in⟩
  · exact ⟨_, op_niX hu, by rw [hK]; exact ok_ni⟩
end

/-! ### arithmetic -/
section
variable {X : Cx} {G : Gx}
def gBin (op : BOp) : Store → D → D → Option D := fun _ a b => binD op a b
theorem szOk_le {n : Nat} (h : szOk n = true) : n ≤ sizeLine := by
  have h' : n ≤ 16777216 := of_decide_eq_true h
  rw [sizeLine_eq]
  exact h'
theorem strOk_app {a b : Str} (ha : PyData.strOk a = true) (hb : PyData.strOk b = true) : PyData.strOk (a ++ b) = true := by
  unfold PyData.strOk at ha hb ⊢
  show (a.cps ++ b.cps).all _ = true
  rw [Array.all_append, ha, hb] <;> rfl
theorem str_app_len (a b : Str) : (a ++ b).length = a.length + b.length := by
  show (a.cps ++ b.cps).size = _
  rw [Array.size_append] <;> rfl
def rAdd4 (K : PySem.W.Frag) : R2 := fun x y H Q => (rI0 fun i j => .int (i + j)) x y H Q ∨ (∃ i j, x = V.str i ∧ y = V.str j ∧ i.length + j.length ≤ sizeLine ∧ Q (.str (i ++ j)) H) ∨ rCatA K x y H Q ∨ rCat x y H Q
theorem op_add4 : OpR X (binaryOp .Add) (rAdd4 X.K) := OpR.or op_add (OpR.or op_add_str (OpR.or op_catA op_cat))
theorem ok_add : R2ok G (gBin .add) (rAdd4 G.K) := by
  intro M S H x y a b d Q r ra rb h k
  have h' : binD .add a b = some d := h
  cases a <;> cases b <;> first | exact nn h' | skip
  · rename_i i j
    cases ra
    cases rb
    refine .inl ⟨i, j, rfl, rfl, k _ M H r .refl ?_⟩
    rw [← Option.some.inj h']
    rfl
  · rename_i i j
    obtain ⟨e1, o1, l1⟩ := ra
    obtain ⟨e2, o2, l2⟩ := rb
    have h2 : (if szOk (i.length + j.length) then some (D.str (i ++ j)) else none) = some d := h'
    split at h2
    · rename_i c
      refine .inr (.inl ⟨i, j, e1, e2, szOk_le c, k _ M H r .refl ?_⟩)
      rw [← Option.some.inj h2]
      exact ⟨rfl, strOk_app o1 o2, by rw [str_app_len]; exact of_decide_eq_true c⟩
    · cases h2
  · rename_i l l'
    obtain ⟨p, vs, e1, s1, t1⟩ := ra
    obtain ⟨q, us, e2, s2, t2⟩ := rb
    have h2 : (if szOk (l.length + l'.length) then some (D.tup (l ++ l')) else none) = some d := h'
    split at h2
    · rename_i c
      have ed := Option.some.inj h2
      have hl1 := t1.length
      have hl2 := t2.length
      refine .inr (.inr (.inl ⟨p, q, vs, us, e1, e2, sqT_up r.sub s1.sq, sqT_up r.sub s2.sq, by rw [← hl1, ← hl2]; exact szOk_le c, fun z => ?_, fun _ z => ?_, fun _ _ w hw => ?_⟩))
      · refine k _ M H r .refl ?_
        subst z
        have el : l = [] := List.length_eq_zero_iff.mp (by rw [hl1] <;> rfl)
        rw [← ed, el]
        exact ⟨q, us, rfl, s2, t2⟩
      · refine k _ M H r .refl ?_
        subst z
        have el : l' = [] := List.length_eq_zero_iff.mp (by rw [hl2] <;> rfl)
        rw [← ed, el, List.append_nil]
        exact ⟨p, vs, rfl, s1, t1⟩
      · obtain ⟨r2, x2⟩ := rel_fin (o := .tup (vs ++ us)) r hw
        refine k _ _ _ r2 x2 ?_
        rw [← ed]
        exact ⟨w, vs ++ us, rfl, .inl upd_same, (t1.append t2).up x2.up⟩
    · cases h2
  · rename_i l l'
    obtain ⟨p, vs, e1, s1, t1⟩ := ra
    obtain ⟨q, us, e2, s2, t2⟩ := rb
    have h2 : (if szOk (l.length + l'.length) then some (D.lst (l ++ l')) else none) = some d := h'
    split at h2
    · rename_i c
      have ed := Option.some.inj h2
      have hl1 := t1.length
      have hl2 := t2.length
      refine .inr (.inr (.inr ⟨p, q, vs, us, e1, e2, r.sub _ _ s1, r.sub _ _ s2, by rw [← hl1, ← hl2]; exact szOk_le c, fun w hw => ?_⟩))
      obtain ⟨r2, x2⟩ := rel_fin (o := .lst (vs ++ us)) r hw
      refine k _ _ _ r2 x2 ?_
      rw [← ed]
      exact ⟨w, vs ++ us, rfl, upd_same, (t1.append t2).up x2.up⟩
    · cases h2
theorem ok_sub : R2ok G (gBin .sub) (rI0 fun i j => .int (i - j)) := ok_int0 (fd := fun i j => .int (i - j)) (fun S a b d h => by
  cases a <;> cases b <;> first | exact nn h | skip
  rename_i i j
  exact ⟨i, j, rfl, rfl, (Option.some.inj h).symm⟩) fun _ _ _ _ => rfl
theorem ok_mul : R2ok G (gBin .mul) (rI CMul fun i j => .int (i * j)) := ok_int (fd := fun i j => .int (i * j)) (fun S a b d h => by
  cases a <;> cases b <;> first | exact nn h | skip
  rename_i i j
  have h2 : (if (decide (-(2 ^ 64) < i) && decide (i < 2 ^ 64)) || (decide (-(2 ^ 64) < j) && decide (j < 2 ^ 64)) then some (D.int (i * j)) else none) = some d := h
  split at h2
  · rename_i c
    simp only [Bool.or_eq_true, Bool.and_eq_true, decide_eq_true_eq] at c
    exact ⟨i, j, rfl, rfl, c, (Option.some.inj h2).symm⟩
  · cases h2) fun _ _ _ _ => rfl
theorem ok_fdiv : R2ok G (gBin .fdiv) (rI CDiv fun i j => .int (i / j)) := ok_int (fd := fun i j => .int (i / j)) (fun S a b d h => by
  cases a <;> cases b <;> first | exact nn h | skip
  rename_i i j
  have h2 : (if decide (0 < j) && decide (j < 1073741824) then some (D.int (i / j)) else none) = some d := h
  split at h2
  · rename_i c
    simp only [Bool.and_eq_true, decide_eq_true_eq] at c
    exact ⟨i, j, rfl, rfl, c, (Option.some.inj h2).symm⟩
  · cases h2) fun _ _ _ _ => rfl
theorem ok_mod : R2ok G (gBin .mod) (rI (fun _ j => 0 < j) fun i j => .int (i % j)) := ok_int (fd := fun i j => .int (i % j)) (fun S a b d h => by
  cases a <;> cases b <;> first | exact nn h | skip
  rename_i i j
  have h2 : (if decide (0 < j) then some (D.int (i % j)) else none) = some d := h
  split at h2
  · rename_i c
    exact ⟨i, j, rfl, rfl, of_decide_eq_true c, (Option.some.inj h2).symm⟩
  · cases h2) fun _ _ _ _ => rfl
theorem ok_pow : R2ok G (gBin .pow) (rI CPow fun i j => .int (i ^ j.toNat)) := ok_int (fd := fun i j => .int (i ^ j.toNat)) (fun S a b d h => by
  cases a <;> cases b <;> first | exact nn h | skip
  rename_i i j
  have h2 : (if decide (0 ≤ j) && decide (j ≤ 1000000) && decide (i.natAbs < 2 ^ 64) then some (D.int (i ^ j.toNat)) else none) = some d := h
  split at h2
  · rename_i c
    simp only [Bool.and_eq_true, decide_eq_true_eq] at c
    exact ⟨i, j, rfl, rfl, ⟨c.1.1, c.1.2, c.2⟩, (Option.some.inj h2).symm⟩
  · cases h2) fun _ _ _ _ => rfl
theorem ok_shl : R2ok G (gBin .shl) (rI CPow fun i j => .int (i * 2 ^ j.toNat)) := ok_int (fd := fun i j => .int (i * 2 ^ j.toNat)) (fun S a b d h => by
  cases a <;> cases b <;> first | exact nn h | skip
  rename_i i j
  have h2 : (if decide (0 ≤ j) && decide (j ≤ 1000000) && decide (i.natAbs < 2 ^ 64) then some (D.int (i * 2 ^ j.toNat)) else none) = some d := h
  split at h2
  · rename_i c
    simp only [Bool.and_eq_true, decide_eq_true_eq] at c
    exact ⟨i, j, rfl, rfl, ⟨c.1.1, c.1.2, c.2⟩, (Option.some.inj h2).symm⟩
  · cases h2) fun _ _ _ _ => rfl
def bopB : BOp → Operator → Bool
  | .add, .Add => true | .sub, .Sub => true | .mul, .Mult => true | .fdiv, .FloorDiv => true | .mod, .Mod => true | .pow, .Pow => true | .shl, .LShift => true
  | _, _ => false
theorem bop_rule (hK : X.K = G.K) {op : BOp} {o : Operator} (h : bopB op o = true) : ∃ r, OpR X (binaryOp o) r ∧ R2ok G (gBin op) r := by
  cases op <;> cases o <;> first | exact nb h | skip
  · exact ⟨_, op_add4, by rw [hK]; exact ok_add⟩
  · exact ⟨_, op_sub, ok_sub⟩
  · exact ⟨_, op_mul, ok_mul⟩
  · exact ⟨_, op_fdiv, ok_fdiv⟩
  · exact ⟨_, op_mod, ok_mod⟩
  · exact ⟨_, op_pow, ok_pow⟩
  · exact ⟨_, op_shl, ok_shl⟩
/-- an item -/
theorem rIx2_ok : R2ok G idxD (rIx G.K) := by
  intro M S H x y a b d Q r ra rb h k
  have h' : idxD S a b = some d := h
  cases b with
  | int i =>
    cases rb
    cases a with
    | tup l =>
      obtain ⟨p, vs, e1, s1, t1⟩ := ra
      obtain ⟨v, h1, h2⟩ := t1.ati (show atI l i = some d from h')
      exact .inr (.inl ⟨p, vs, i, v, e1, rfl, sqT_up r.sub s1.sq, h1, k _ M H r .refl h2⟩)
    | lst l =>
      obtain ⟨p, vs, e1, s1, t1⟩ := ra
      obtain ⟨v, h1, h2⟩ := t1.ati (show atI l i = some d from h')
      exact .inl ⟨p, vs, i, v, e1, rfl, SqL.of (r.sub _ _ s1), h1, k _ M H r .refl h2⟩
    | str z =>
      obtain ⟨e1, o1, l1⟩ := ra
      obtain ⟨c, hc, e⟩ := Option.map_eq_some_iff.mp (show (atI z.cps.toList i).map (fun c => D.str ⟨#[c]⟩) = some d from h')
      refine .inr (.inr ⟨z, i, c, e1, rfl, by rw [sizeLine_eq]; exact l1, hc, k _ M H r .refl ?_⟩)
      rw [← e]
      refine ⟨rfl, ?_, by show 1 ≤ 16777216; decide⟩
      have hm : c ∈ z.cps.toList := by
        unfold atI at hc
        obtain ⟨j, _, hj⟩ := Option.bind_eq_some_iff.mp hc
        exact List.mem_of_getElem? hj
      unfold PyData.strOk at o1 ⊢
      rw [← Array.all_toList, List.all_eq_true] at o1
      have := o1 c hm
      simpa using this
    | ref a =>
      have h2 : (match S[a]? with | some (.lst l) => atI l i | _ => none) = some d := h'
      split at h2
      · rename_i l hl
        obtain ⟨_, e1⟩ := ra
        obtain ⟨⟨vs, e2, t⟩, _⟩ := r.obj a _ hl
        obtain ⟨v, h1, h2⟩ := t.ati h2
        exact .inl ⟨M.m a, vs, i, v, e1, rfl, SqL.of e2, h1, k _ M H r .refl h2⟩
      · cases h2
    | _ => exact nn h'
  | _ => cases a <;> exact nn h'
end
end HN

/-! The expressions of HN, one rule each. -/
namespace HN
open PySem L2

/-! ### readings -/
def tEf (G : Gx) (f : Env → Store → Option (D × Store)) : TE := fun σ H Q => ∃ (M : Mp) (S : Store) (ρ : Env) (d : D) (S' : Store), Rel G M S H ∧ EnvR G M S H σ ρ ∧ f ρ S = some (d, S') ∧
  ∀ v M' H', Rel G M' S' H' → Ext M S H M' S' H' → Rp G M' S'.length d v → Q v H'
def tTf (G : Gx) (f : Env → Store → Option (Bool × Store)) : TT := fun σ H Q => ∃ (M : Mp) (S : Store) (ρ : Env) (d : Bool) (S' : Store), Rel G M S H ∧ EnvR G M S H σ ρ ∧ f ρ S = some (d, S') ∧
  ∀ M' H', Rel G M' S' H' → Ext M S H M' S' H' → Q d H'
def tAf (G : Gx) (f : Env → Store → Option (List D × Store)) : TA := fun σ H Q => ∃ (M : Mp) (S : Store) (ρ : Env) (d : List D) (S' : Store), Rel G M S H ∧ EnvR G M S H σ ρ ∧ f ρ S = some (d, S') ∧
  ∀ vs M' H', Rel G M' S' H' → Ext M S H M' S' H' → RpL G M' S'.length d vs → Q vs H'
/-- a new list, nobody's -/
def tLf (G : Gx) (f : Env → Store → Option (List D × Store)) : TE := fun σ H Q => ∃ (M : Mp) (S : Store) (ρ : Env) (d : List D) (S' : Store), Rel G M S H ∧ EnvR G M S H σ ρ ∧ f ρ S = some (d, S') ∧
  ∀ p vs M' H', Rel G M' S' H' → Ext M S H M' S' H' → RpL G M' S'.length d vs → H' p = some (.lst vs) → H p = none → M'.F p = none → (∀ a, a < S'.length → M'.m a ≠ p) → Q (.ref p) H'
section
variable {G : Gx} {M : Mp} {S S' : Store} {ρ : Env} {σ : L2.St} {H : Hp}
theorem tEf.mk {f : Env → Store → Option (D × Store)} {d : D} {Q : VK} (r : Rel G M S H) (e : EnvR G M S H σ ρ) (h : f ρ S = some (d, S')) (k : ∀ v M' H', Rel G M' S' H' → Ext M S H M' S' H' → Rp G M' S'.length d v → Q v H') : tEf G f σ H Q :=
  ⟨M, S, ρ, d, S', r, e, h, k⟩
theorem tTf.mk {f : Env → Store → Option (Bool × Store)} {d : Bool} {Q : Bool → Hp → Prop} (r : Rel G M S H) (e : EnvR G M S H σ ρ) (h : f ρ S = some (d, S')) (k : ∀ M' H', Rel G M' S' H' → Ext M S H M' S' H' → Q d H') : tTf G f σ H Q :=
  ⟨M, S, ρ, d, S', r, e, h, k⟩
theorem tAf.mk {f : Env → Store → Option (List D × Store)} {d : List D} {Q : List V → Hp → Prop} (r : Rel G M S H) (e : EnvR G M S H σ ρ) (h : f ρ S = some (d, S')) (k : ∀ vs M' H', Rel G M' S' H' → Ext M S H M' S' H' → RpL G M' S'.length d vs → Q vs H') : tAf G f σ H Q :=
  ⟨M, S, ρ, d, S', r, e, h, k⟩
/-- what stood stands -/
theorem Ext.stays {M' : Mp} {H' : Hp} {p : Addr} {o : HO} (r : Rel G M S H) (r' : Rel G M' S' H') (x : Ext M S H M' S' H') (h : H p = some o) : ∃ u, H' p = some u := by
  by_cases h1 : M.F p = none
  · by_cases h2 : ∃ a, a < S.length ∧ M.m a = p
    · obtain ⟨a, ha, e⟩ := h2
      have ha' : a < S'.length := Nat.lt_of_lt_of_le ha x.up.le
      obtain ⟨q, _⟩ := r'.obj a _ (List.getElem?_eq_getElem ha')
      rw [x.up.m a ha, e] at q
      exact q.some
    · exact ⟨o, (x.fgn p o h h1 fun a ha e => h2 ⟨a, ha, e⟩).1⟩
  · cases q : M.F p with
    | none => exact absurd q h1
    | some u => exact ⟨u, r'.sub p u (x.up.F p u q)⟩
theorem Ext.fresh {M' : Mp} {H' : Hp} {p : Addr} (r : Rel G M S H) (r' : Rel G M' S' H') (x : Ext M S H M' S' H') (h : H' p = none) : H p = none := by
  cases q : H p with
  | none => rfl
  | some o =>
    obtain ⟨u, e⟩ := x.stays r r' q
    rw [e] at h
    cases h
end

section
variable {X : Cx} {G : Gx}
/-! ### names and constants -/
theorem s_var {i : Nat} {x : Str} {pos : Pos} (hN : X.N[i]? = some x) (hv : Vis X.env.scope x) (hd : (x == ("__debug__" : Str)) = false) (hcd : (x == ("__classdict__" : Str)) = false) :
    PE X (.Name x pos) (tEf G fun ρ S => (getV ρ i).map fun d => (d, S)) := by
  refine pe_weak (pe_var hN hv hd hcd) fun σ H Q h => ?_
  obtain ⟨M, S, ρ, d, S', r, e, h, k⟩ := h
  obtain ⟨d', hd', e'⟩ := Option.map_eq_some_iff.mp h
  cases e'
  obtain ⟨v, h1, h2⟩ := e.getV hd'
  exact ⟨v, h1, k v M H r .refl h2⟩
theorem s_const {e : Expr} {v : V} {d : D} (he : PE X e (tC v)) (hr : ∀ (M : Mp) (n : Nat), Rp G M n d v) : PE X e (tEf G fun _ S => some (d, S)) := by
  refine pe_weak he fun σ H Q h => ?_
  obtain ⟨M, S, ρ, d', S', r, e, h, k⟩ := h
  cases h
  exact k v M H r .refl (hr M _)
theorem s_glob {x : Str} {pos : Pos} {g : Option D} (hg : Gl X x) (hd : (x == ("__debug__" : Str)) = false) (hm : ∀ d, g = some d → ∃ v u, X.mg x = some u ∧ RelV v u ∧ ∀ (M : Mp) (n : Nat), Rp G M n d v) :
    PE X (.Name x pos) (tEf G fun _ S => g.map fun d => (d, S)) := by
  cases g with
  | none =>
    refine ⟨fun pins s σ H Q I h => ?_⟩
    obtain ⟨M, S, ρ, d', S', r, e, h, k⟩ := h
    cases h
  | some d =>
    obtain ⟨v, u, h1, h2, h3⟩ := hm d rfl
    exact s_const (pe_glob hg h1 h2 hd) h3

/-! ### operators -/
/-- two parts, then a rule on their values -/
theorem op2_read {r : R2} {g : Store → D → D → Option D} {fa fb : Env → Store → Option (D × Store)} {σ : L2.St} {H : Hp} {Q : VK} (ok : R2ok G g r)
    (h : tEf G (fun ρ S => (fa ρ S).bind fun x => (fb ρ x.2).bind fun y => (g y.2 x.1 y.1).map fun d => (d, y.2)) σ H Q) : tOp r (tEf G fa) (tEf G fb) σ H Q := by
  obtain ⟨M, S, ρ, d, S', rl, e, h, k⟩ := h
  obtain ⟨x, hx, h⟩ := Option.bind_eq_some_iff.mp h
  obtain ⟨y, hy, h⟩ := Option.bind_eq_some_iff.mp h
  obtain ⟨z, hz, h⟩ := Option.map_eq_some_iff.mp h
  cases h
  refine tEf.mk rl e hx fun v M1 H1 r1 x1 p1 => tEf.mk r1 (e.ext x1) hy fun w M2 H2 r2 x2 p2 => ?_
  exact ok M2 y.2 H2 v w x.1 y.1 d Q r2 (p1.up x2.up) p2 hz fun u M3 H3 r3 x3 p3 => k u M3 H3 r3 ((x1.trans x2).trans x3) p3
theorem s_bin {op : BOp} {o : Operator} {a b : Expr} {fa fb : Env → Store → Option (D × Store)} {pos : Pos} (hK : X.K = G.K) (ho : bopB op o = true) (ha : PE X a (tEf G fa)) (hb : PE X b (tEf G fb)) :
    PE X (.BinOp a o b pos) (tEf G fun ρ S => (fa ρ S).bind fun x => (fb ρ x.2).bind fun y => (binD op x.1 y.1).map fun d => (d, y.2)) := by
  obtain ⟨r, h1, h2⟩ := bop_rule hK ho
  exact pe_weak (pe_op h1 ha hb) fun σ H Q h => op2_read h2 h
theorem s_neg {a : Expr} {fa : Env → Store → Option (D × Store)} {pos : Pos} (ha : PE X a (tEf G fa)) :
    PE X (.UnaryOp .USub a pos) (tEf G fun ρ S => (fa ρ S).bind fun x => match x with | (.int i, S1) => some (.int (-i), S1) | _ => none) := by
  refine pe_weak (pe_un un_neg ha) fun σ H Q h => ?_
  obtain ⟨M, S, ρ, d, S', rl, e, h, k⟩ := h
  obtain ⟨x, hx, h⟩ := Option.bind_eq_some_iff.mp h
  obtain ⟨x1, x2⟩ := x
  cases x1 <;> first | exact nn h | skip
  rename_i i
  have h : some (D.int (-i), x2) = some (d, S') := h
  cases h
  exact tEf.mk rl e hx fun v M1 H1 r1 q1 p1 => ⟨i, p1, k _ M1 H1 r1 q1 rfl⟩
theorem cmp_read {op : COp} {r : R2} {fa fb : Env → Store → Option (D × Store)} {σ : L2.St} {H : Hp} {Q : VK} (ok : R2ok G (gCmp op) r)
    (h : tEf G (fun ρ S => (fa ρ S).bind fun x => (fb ρ x.2).bind fun y => (cmpD op x.1 y.1).map fun d => (.bl d, y.2)) σ H Q) : tOp r (tEf G fa) (tEf G fb) σ H Q := by
  refine op2_read ok ?_
  obtain ⟨M, S, ρ, d, S', rl, e, h, k⟩ := h
  refine ⟨M, S, ρ, d, S', rl, e, ?_, k⟩
  obtain ⟨x, hx, h⟩ := Option.bind_eq_some_iff.mp h
  obtain ⟨y, hy, h⟩ := Option.bind_eq_some_iff.mp h
  obtain ⟨z, hz, h⟩ := Option.map_eq_some_iff.mp h
  refine Option.bind_eq_some_iff.mpr ⟨x, hx, Option.bind_eq_some_iff.mpr ⟨y, hy, Option.map_eq_some_iff.mpr ⟨.bl z, ?_, h⟩⟩⟩
  show (cmpD op x.1 y.1).map D.bl = some (.bl z)
  rw [hz] <;> rfl
theorem s_cmp {op : COp} {o : CmpOp} {a b : Expr} {fa fb : Env → Store → Option (D × Store)} {pos : Pos} (hu : X.A.units + 65 < cLine) (hK : X.K = G.K) (ho : copB op o = true) (ha : PE X a (tEf G fa)) (hb : PE X b (tEf G fb)) (hm : behindInMarks o b = false) :
    PE X (.Compare a [o] [b] pos) (tEf G fun ρ S => (fa ρ S).bind fun x => (fb ρ x.2).bind fun y => (cmpD op x.1 y.1).map fun d => (.bl d, y.2)) := by
  obtain ⟨r, h1, h2⟩ := cop_rule hu hK ho
  exact pe_weak (pe_cmpR h1 ha hb hm) fun σ H Q h => cmp_read h2 h
theorem t_cmp {op : COp} {o : CmpOp} {a b : Expr} {fa fb : Env → Store → Option (D × Store)} {pos : Pos} (hu : X.A.units + 65 < cLine) (hK : X.K = G.K) (ho : copB op o = true) (ha : PE X a (tEf G fa)) (hb : PE X b (tEf G fb)) (hm : behindInMarks o b = false) :
    PT X (.Compare a [o] [b] pos) (tTf G fun ρ S => (fa ρ S).bind fun x => (fb ρ x.2).bind fun y => (cmpD op x.1 y.1).map fun d => (d, y.2)) := by
  obtain ⟨r, h1, h2⟩ := cop_rule hu hK ho
  refine pt_weak (pt_cmpR h1 ha hb hm) fun σ H Q h => cmp_read h2 ?_
  obtain ⟨M, S, ρ, d, S', rl, e, h, k⟩ := h
  obtain ⟨x, hx, h⟩ := Option.bind_eq_some_iff.mp h
  obtain ⟨y, hy, h⟩ := Option.bind_eq_some_iff.mp h
  obtain ⟨z, hz, h⟩ := Option.map_eq_some_iff.mp h
  cases h
  refine ⟨M, S, ρ, .bl d, y.2, rl, e, Option.bind_eq_some_iff.mpr ⟨x, hx, Option.bind_eq_some_iff.mpr ⟨y, hy, Option.map_eq_some_iff.mpr ⟨d, hz, rfl⟩⟩⟩, fun v M1 H1 r1 x1 p1 => ⟨d, p1, k M1 H1 r1 x1⟩⟩
/-- a op b op' c -/
theorem chain_read {op op' : COp} {r r' : R2} {fa fb fc : Env → Store → Option (D × Store)} {σ : L2.St} {H : Hp} {Q : VK} (ok : R2ok G (gCmp op) r) (ok' : R2ok G (gCmp op') r')
    (h : tEf G (fun ρ S => (fa ρ S).bind fun x => (fb ρ x.2).bind fun y => (cmpD op x.1 y.1).bind fun k => if k then (fc ρ y.2).bind fun z => (cmpD op' y.1 z.1).map fun d => (.bl d, z.2) else some (.bl false, y.2)) σ H Q) :
    tChain r r' (tEf G fa) (tEf G fb) (tEf G fc) σ H Q := by
  obtain ⟨M, S, ρ, d, S', rl, e, h, k⟩ := h
  obtain ⟨x, hx, h⟩ := Option.bind_eq_some_iff.mp h
  obtain ⟨y, hy, h⟩ := Option.bind_eq_some_iff.mp h
  obtain ⟨z, hz, h⟩ := Option.bind_eq_some_iff.mp h
  refine tEf.mk rl e hx fun v M1 H1 r1 x1 p1 => tEf.mk r1 (e.ext x1) hy fun w M2 H2 r2 x2 p2 => ?_
  refine ok M2 y.2 H2 v w x.1 y.1 (.bl z) _ r2 (p1.up x2.up) p2 (by show (cmpD op x.1 y.1).map D.bl = _; rw [hz] <;> rfl) fun u M3 H3 r3 x3 p3 => ⟨z, p3, ?_⟩
  cases z with
  | false =>
    cases h
    exact iteF (k _ M3 H3 r3 ((x1.trans x2).trans x3) rfl)
  | true =>
    obtain ⟨q, hq, h⟩ := Option.bind_eq_some_iff.mp (show ((fc ρ y.2).bind fun z => (cmpD op' y.1 z.1).map fun d => (D.bl d, z.2)) = some (d, S') from h)
    obtain ⟨c, hc, h⟩ := Option.map_eq_some_iff.mp h
    cases h
    refine iteT (tEf.mk r3 (((e.ext x1).ext x2).ext x3) hq fun u2 M4 H4 r4 x4 p4 => ?_)
    exact ok' M4 q.2 H4 w u2 y.1 q.1 (.bl c) Q r4 ((p2.up x3.up).up x4.up) p4 (by show (cmpD op' y.1 q.1).map D.bl = _; rw [hc] <;> rfl) fun u3 M5 H5 r5 x5 p5 => k u3 M5 H5 r5 (((x1.trans x2).trans x3).trans (x4.trans x5)) p5
theorem s_chain {op op' : COp} {o o' : CmpOp} {a b c : Expr} {fa fb fc : Env → Store → Option (D × Store)} {pos : Pos} (hu : X.A.units + 65 < cLine) (hK : X.K = G.K) (ho : copB op o = true) (ho' : copB op' o' = true)
    (ha : PE X a (tEf G fa)) (hb : PE X b (tEf G fb)) (hc : PE X c (tEf G fc)) (hm : lastMarks [o, o'] [b, c] = false) :
    PE X (.Compare a [o, o'] [b, c] pos) (tEf G fun ρ S => (fa ρ S).bind fun x => (fb ρ x.2).bind fun y => (cmpD op x.1 y.1).bind fun k => if k then (fc ρ y.2).bind fun z => (cmpD op' y.1 z.1).map fun d => (.bl d, z.2) else some (.bl false, y.2)) := by
  obtain ⟨r, h1, h2⟩ := cop_rule hu hK ho
  obtain ⟨r', h1', h2'⟩ := cop_rule hu hK ho'
  exact pe_weak (pe_chain h1 h1' ha hb hc hm) fun σ H Q h => chain_read h2 h2' h
theorem t_chain {op op' : COp} {o o' : CmpOp} {a b c : Expr} {fa fb fc : Env → Store → Option (D × Store)} {pos : Pos} (hu : X.A.units + 65 < cLine) (hK : X.K = G.K) (ho : copB op o = true) (ho' : copB op' o' = true)
    (ha : PE X a (tEf G fa)) (hb : PE X b (tEf G fb)) (hc : PE X c (tEf G fc)) (hm : lastMarks [o, o'] [b, c] = false) :
    PT X (.Compare a [o, o'] [b, c] pos) (tTf G fun ρ S => (fa ρ S).bind fun x => (fb ρ x.2).bind fun y => (cmpD op x.1 y.1).bind fun k => if k then (fc ρ y.2).bind fun z => (cmpD op' y.1 z.1).map fun d => (d, z.2) else some (false, y.2)) := by
  obtain ⟨r, h1, h2⟩ := cop_rule hu hK ho
  obtain ⟨r', h1', h2'⟩ := cop_rule hu hK ho'
  refine pt_weak (pt_chain h1 h1' ha hb hc hm) fun σ H Q h => chain_read h2 h2' ?_
  obtain ⟨M, S, ρ, d, S', rl, e, h, k⟩ := h
  refine ⟨M, S, ρ, .bl d, S', rl, e, ?_, fun v M1 H1 r1 x1 p1 => ⟨d, p1, k M1 H1 r1 x1⟩⟩
  obtain ⟨x, hx, h⟩ := Option.bind_eq_some_iff.mp h
  obtain ⟨y, hy, h⟩ := Option.bind_eq_some_iff.mp h
  obtain ⟨z, hz, h⟩ := Option.bind_eq_some_iff.mp h
  refine Option.bind_eq_some_iff.mpr ⟨x, hx, Option.bind_eq_some_iff.mpr ⟨y, hy, Option.bind_eq_some_iff.mpr ⟨z, hz, ?_⟩⟩⟩
  cases z with
  | false => cases h; rfl
  | true =>
    obtain ⟨q, hq, h⟩ := Option.bind_eq_some_iff.mp (show ((fc ρ y.2).bind fun z => (cmpD op' y.1 z.1).map fun d => (d, z.2)) = some (d, S') from h)
    obtain ⟨c, hc, h⟩ := Option.map_eq_some_iff.mp h
    cases h
    show ((fc ρ y.2).bind fun z => (cmpD op' y.1 z.1).map fun d => (D.bl d, z.2)) = _
    rw [hq]
    show (cmpD op' y.1 q.1).map (fun d => (D.bl d, q.2)) = _
    rw [hc] <;> rfl

/-! ### not, and, or, a choice -/
theorem t_not {a : Expr} {fa : Env → Store → Option (Bool × Store)} {pos : Pos} (ha : PT X a (tTf G fa)) : PT X (.UnaryOp .Not a pos) (tTf G fun ρ S => (fa ρ S).map fun x => (!x.1, x.2)) := by
  refine pt_weak (pt_not ha) fun σ H Q h => ?_
  obtain ⟨M, S, ρ, d, S', rl, e, h, k⟩ := h
  obtain ⟨x, hx, h⟩ := Option.map_eq_some_iff.mp h
  cases h
  exact tTf.mk rl e hx k
theorem s_not {a : Expr} {fa : Env → Store → Option (D × Store)} {pos : Pos} (ha : PE X a (tEf G fa)) : PE X (.UnaryOp .Not a pos) (tEf G fun ρ S => (fa ρ S).bind fun x => match x with | (.bl b, S1) => some (.bl (!b), S1) | _ => none) := by
  refine pe_weak (pe_not ha) fun σ H Q h => ?_
  obtain ⟨M, S, ρ, d, S', rl, e, h, k⟩ := h
  obtain ⟨⟨x1, x2⟩, hx, h2⟩ := Option.bind_eq_some_iff.mp h
  clear h
  cases x1 with
  | bl b =>
    have h := Option.some.inj (show some (D.bl (!b), x2) = some (d, S') from h2)
    cases h
    exact tEf.mk rl e hx fun v M1 H1 r1 q1 p1 => ⟨b, p1, k _ M1 H1 r1 q1 rfl⟩
  | _ => exact nn h2
theorem s_ite {c a b : Expr} {fc : Env → Store → Option (Bool × Store)} {fa fb : Env → Store → Option (D × Store)} {pos : Pos} (hc : PT X c (tTf G fc)) (ha : PE X a (tEf G fa)) (hb : PE X b (tEf G fb)) :
    PE X (.IfExp c a b pos) (tEf G fun ρ S => (fc ρ S).bind fun x => if x.1 then fa ρ x.2 else fb ρ x.2) := by
  refine pe_weak (pe_ifExp hc ha hb) fun σ H Q h => ?_
  obtain ⟨M, S, ρ, d, S', rl, e, h, k⟩ := h
  obtain ⟨x, hx, h⟩ := Option.bind_eq_some_iff.mp h
  obtain ⟨b, S1⟩ := x
  refine tTf.mk rl e hx fun M1 H1 r1 x1 => ?_
  cases b with
  | true => exact iteT (tEf.mk r1 (e.ext x1) (show fa ρ S1 = some (d, S') from h) fun v M2 H2 r2 x2 p2 => k v M2 H2 r2 (x1.trans x2) p2)
  | false => exact iteF (tEf.mk r1 (e.ext x1) (show fb ρ S1 = some (d, S') from h) fun v M2 H2 r2 x2 p2 => k v M2 H2 r2 (x1.trans x2) p2)
theorem s_and {a b : Expr} {rest : List Expr} {fa fb : Env → Store → Option (D × Store)} {pos : Pos} (ha : PE X a (tEf G fa)) (hb : PE X (.BoolOp .And (b :: rest) pos) (tEf G fb)) :
    PE X (.BoolOp .And (a :: b :: rest) pos) (tEf G fun ρ S => (fa ρ S).bind fun x => match x with | (.bl true, S1) => fb ρ S1 | (.bl false, S1) => some (.bl false, S1) | _ => none) := by
  refine pe_weak (pe_and ha hb) fun σ H Q h => ?_
  obtain ⟨M, S, ρ, d, S', rl, e, h, k⟩ := h
  obtain ⟨x, hx, h⟩ := Option.bind_eq_some_iff.mp h
  obtain ⟨x1, x2⟩ := x
  cases x1 <;> first | exact nn h | skip
  rename_i c
  refine tEf.mk rl e hx fun v M1 H1 r1 q1 p1 => ⟨c, p1, ?_⟩
  cases c with
  | true => exact iteT (tEf.mk r1 (e.ext q1) (show fb ρ x2 = some (d, S') from h) fun v M2 H2 r2 q2 p2 => k v M2 H2 r2 (q1.trans q2) p2)
  | false =>
    have h : some (D.bl false, x2) = some (d, S') := h
    cases h
    exact iteF (k _ M1 H1 r1 q1 rfl)
theorem s_or {a b : Expr} {rest : List Expr} {fa fb : Env → Store → Option (D × Store)} {pos : Pos} (ha : PE X a (tEf G fa)) (hb : PE X (.BoolOp .Or (b :: rest) pos) (tEf G fb)) :
    PE X (.BoolOp .Or (a :: b :: rest) pos) (tEf G fun ρ S => (fa ρ S).bind fun x => match x with | (.bl false, S1) => fb ρ S1 | (.bl true, S1) => some (.bl true, S1) | _ => none) := by
  refine pe_weak (pe_or ha hb) fun σ H Q h => ?_
  obtain ⟨M, S, ρ, d, S', rl, e, h, k⟩ := h
  obtain ⟨x, hx, h⟩ := Option.bind_eq_some_iff.mp h
  obtain ⟨x1, x2⟩ := x
  cases x1 <;> first | exact nn h | skip
  rename_i c
  refine tEf.mk rl e hx fun v M1 H1 r1 q1 p1 => ⟨c, p1, ?_⟩
  cases c with
  | false => exact iteF (tEf.mk r1 (e.ext q1) (show fb ρ x2 = some (d, S') from h) fun v M2 H2 r2 q2 p2 => k v M2 H2 r2 (q1.trans q2) p2)
  | true =>
    have h : some (D.bl true, x2) = some (d, S') := h
    cases h
    exact iteT (k _ M1 H1 r1 q1 rfl)
theorem w_and {a b : Expr} {rest : List Expr} {fa fb : Env → Store → Option (Bool × Store)} {pos : Pos} (ha : PT X a (tTf G fa)) (hb : PW X (.BoolOp .And (b :: rest) pos) (tTf G fb)) :
    PW X (.BoolOp .And (a :: b :: rest) pos) (tTf G fun ρ S => (fa ρ S).bind fun x => if x.1 then fb ρ x.2 else some (false, x.2)) := by
  refine pw_weak (pw_and ha hb) fun σ H Q h => ?_
  obtain ⟨M, S, ρ, d, S', rl, e, h, k⟩ := h
  obtain ⟨x, hx, h⟩ := Option.bind_eq_some_iff.mp h
  obtain ⟨c, x2⟩ := x
  refine tTf.mk rl e hx fun M1 H1 r1 q1 => ?_
  cases c with
  | true => exact iteT (tTf.mk r1 (e.ext q1) (show fb ρ x2 = some (d, S') from h) fun M2 H2 r2 q2 => k M2 H2 r2 (q1.trans q2))
  | false =>
    have h : some (false, x2) = some (d, S') := h
    cases h
    exact iteF (k M1 H1 r1 q1)
theorem w_or {a b : Expr} {rest : List Expr} {fa fb : Env → Store → Option (Bool × Store)} {pos : Pos} (ha : PT X a (tTf G fa)) (hb : PW X (.BoolOp .Or (b :: rest) pos) (tTf G fb)) :
    PW X (.BoolOp .Or (a :: b :: rest) pos) (tTf G fun ρ S => (fa ρ S).bind fun x => if x.1 then some (true, x.2) else fb ρ x.2) := by
  refine pw_weak (pw_or ha hb) fun σ H Q h => ?_
  obtain ⟨M, S, ρ, d, S', rl, e, h, k⟩ := h
  obtain ⟨x, hx, h⟩ := Option.bind_eq_some_iff.mp h
  obtain ⟨c, x2⟩ := x
  refine tTf.mk rl e hx fun M1 H1 r1 q1 => ?_
  cases c with
  | false => exact iteF (tTf.mk r1 (e.ext q1) (show fb ρ x2 = some (d, S') from h) fun M2 H2 r2 q2 => k M2 H2 r2 (q1.trans q2))
  | true =>
    have h : some (true, x2) = some (d, S') := h
    cases h
    exact iteT (k M1 H1 r1 q1)
/-- a value as a test -/
theorem tru_rp {M : Mp} {S : Store} {H : Hp} {d : D} {v : V} {b : Bool} (r : Rel G M S H) (p : Rp G M S.length d v) (h : truD S d = some b) : TruV G.K v H b := by
  cases d with
  | non => cases p; exact (Option.some.inj h).symm
  | bl c => cases p; exact (Option.some.inj h).symm
  | int i => cases p; exact (Option.some.inj h).symm
  | str s =>
    obtain ⟨e, o, l⟩ := p
    rw [e]
    refine ⟨by rw [sizeLine_eq]; exact l, ?_⟩
    rw [← Option.some.inj h, Bool.eq_iff_iff]
    simp
  | tup l =>
    obtain ⟨q, vs, e, s, t⟩ := p
    rw [e]
    refine .inr (.inl ⟨vs, sqT_up r.sub s.sq, ?_⟩)
    rw [← Option.some.inj h]
    have hl := t.length
    cases l <;> cases vs <;> first | rfl | simp at hl
  | lst l =>
    obtain ⟨q, vs, e, s, t⟩ := p
    rw [e]
    refine .inl ⟨vs, SqL.of (r.sub _ _ s), ?_⟩
    rw [← Option.some.inj h]
    have hl := t.length
    cases l <;> cases vs <;> first | rfl | simp at hl
  | ref a =>
    have h2 : (match S[a]? with | some (.lst l) => some (!l.isEmpty) | _ => none) = some b := h
    split at h2
    · rename_i l hl
      obtain ⟨_, e⟩ := p
      obtain ⟨⟨vs, e2, t⟩, _⟩ := r.obj a _ hl
      rw [e]
      refine .inl ⟨vs, SqL.of e2, ?_⟩
      rw [← Option.some.inj h2]
      have hl := t.length
      cases l <;> cases vs <;> first | rfl | simp at hl
    · cases h2
  | _ => exact nn h
theorem t_val {a : Expr} {fa : Env → Store → Option (D × Store)} (hK : X.K = G.K) (ha : PE X a (tEf G fa)) (he : ∀ whole, isTrue a X.env whole = (do let v ← whole; standAt a.pos; holding [v] (truthy v))) :
    PT X a (tTf G fun ρ S => (fa ρ S).bind fun x => (truD x.2 x.1).map fun b => (b, x.2)) := by
  refine pt_weak (pt_truth ha he) fun σ H Q h => ?_
  obtain ⟨M, S, ρ, d, S', rl, e, h, k⟩ := h
  obtain ⟨x, hx, h⟩ := Option.bind_eq_some_iff.mp h
  obtain ⟨b, hb, h⟩ := Option.map_eq_some_iff.mp h
  cases h
  exact tEf.mk rl e hx fun v M1 H1 r1 x1 p1 => ⟨d, by rw [hK]; exact tru_rp r1 p1 hb, k M1 H1 r1 x1⟩

/-! ### argument lists -/
def notStar : Expr → Bool
  | .Starred _ _ => false
  | _ => true
theorem star_cons {e : Expr} {es : List Expr} {env : PySem.Env} (h : notStar e = true) : starEach (e :: es) env = (false, eval e env) :: starEach es env := by
  cases e <;> first | rfl | exact nb h
theorem star_none : ∀ {es : List Expr} {env : PySem.Env}, es.all notStar = true → ∀ x ∈ starEach es env, x.1 = false
  | [], _, _, x, hx => by cases hx
  | e :: es, env, h, x, hx => by
    rw [List.all_cons, Bool.and_eq_true] at h
    rw [star_cons h.1] at hx
    rcases List.mem_cons.mp hx with z | z
    · rw [z]
    · exact star_none h.2 x z
theorem plain_any {es : List Expr} {env : PySem.Env} {pos : Pos} (h : es.all notStar = true) : (backTo pos (starEach es env)).any (·.1) = false := by
  rw [List.any_eq_false]
  intro x hx
  unfold backTo at hx
  obtain ⟨y, hy, e⟩ := List.mem_map.mp hx
  rw [← e, star_none h y hy]
  exact Bool.false_ne_true
theorem a_nil : PA X [] (tAf G fun _ S => some ([], S)) := by
  refine pa_weak pa_nil fun σ H Q h => ?_
  obtain ⟨M, S, ρ, d, S', rl, e, h, k⟩ := h
  cases h
  exact k [] M H rl .refl RpL.nil
theorem a_cons {e : Expr} {es : List Expr} {fe : Env → Store → Option (D × Store)} {fs : Env → Store → Option (List D × Store)} (hs : notStar e = true) (he : PE X e (tEf G fe)) (hr : PA X es (tAf G fs)) :
    PA X (e :: es) (tAf G fun ρ S => (fe ρ S).bind fun x => (fs ρ x.2).map fun y => (x.1 :: y.1, y.2)) := by
  refine pa_weak (pa_cons he hr (star_cons hs)) fun σ H Q h => ?_
  obtain ⟨M, S, ρ, d, S', rl, en, h, k⟩ := h
  obtain ⟨x, hx, h⟩ := Option.bind_eq_some_iff.mp h
  obtain ⟨y, hy, h⟩ := Option.map_eq_some_iff.mp h
  cases h
  refine tEf.mk rl en hx fun v M1 H1 r1 x1 p1 => tAf.mk r1 (en.ext x1) hy fun vs M2 H2 r2 x2 p2 => ?_
  exact k _ M2 H2 r2 (x1.trans x2) (RpL.cons (p1.up x2.up) p2)

/-! ### displays, items, cuts -/
theorem s_tup {es : List Expr} {fs : Env → Store → Option (List D × Store)} {j : Nat} {pos : Pos} (h : PA X es (tAf G fs)) : PE X (.Tuple es j pos) (tEf G fun ρ S => (fs ρ S).bind fun x => if szOk x.1.length then some (.tup x.1, x.2) else none) := by
  refine pe_weak (pe_tup h) fun σ H Q h => ?_
  obtain ⟨M, S, ρ, d, S', rl, e, h, k⟩ := h
  obtain ⟨x, hx, h⟩ := Option.bind_eq_some_iff.mp h
  split at h
  · rename_i c
    cases h
    refine tAf.mk rl e hx fun vs M1 H1 r1 x1 p1 => ⟨by rw [← p1.length]; exact szOk_le c, fun p hp => ?_⟩
    obtain ⟨r2, x2⟩ := rel_fin (o := .tup vs) r1 hp
    exact k _ _ _ r2 (x1.trans x2) ⟨p, vs, rfl, .inl upd_same, p1.up x2.up⟩
  · cases h
theorem l_disp {es : List Expr} {fs : Env → Store → Option (List D × Store)} {pos : Pos} (h : PA X es (tAf G fs)) : PE X (.List es pos) (tLf G fun ρ S => (fs ρ S).bind fun x => if szOk x.1.length then some x else none) := by
  refine pe_weak (pe_lst h) fun σ H Q h => ?_
  obtain ⟨M, S, ρ, d, S', rl, e, h, k⟩ := h
  obtain ⟨x, hx, h⟩ := Option.bind_eq_some_iff.mp h
  split at h
  · rename_i c
    have h := Option.some.inj h
    rw [h] at hx c
    refine tAf.mk rl e hx fun vs M1 H1 r1 x1 p1 => ⟨by rw [← p1.length]; exact szOk_le c, fun p hp => ?_⟩
    obtain ⟨r2, x2, f1, f2⟩ := rel_free (o := .lst vs) r1 hp
    exact k p vs _ _ r2 (x1.trans x2) (p1.up x2.up) upd_same (x1.fresh rl r1 hp) f1 f2
  · cases h
/-- a new list as a finished one -/
theorem s_frz {e : Expr} {fl : Env → Store → Option (List D × Store)} (h : PE X e (tLf G fl)) : PE X e (tEf G fun ρ S => (fl ρ S).map fun x => (.lst x.1, x.2)) := by
  refine pe_weak h fun σ H Q h => ?_
  obtain ⟨M, S, ρ, d, S', rl, e, h, k⟩ := h
  obtain ⟨x, hx, h⟩ := Option.map_eq_some_iff.mp h
  cases h
  refine ⟨M, S, ρ, x.1, x.2, rl, e, hx, fun p vs M1 H1 r1 x1 p1 hp hn f1 f2 => ?_⟩
  obtain ⟨r2, u2⟩ := rel_freeze r1 hp f1 f2
  refine k _ _ _ r2 ⟨x1.up.trans u2, fun q o h1 h2 h3 => ?_⟩ ⟨p, vs, rfl, upd_same, p1.up u2⟩
  obtain ⟨q1, q2, q3⟩ := x1.fgn q o h1 h2 h3
  refine ⟨q1, ?_, q3⟩
  show upd M1.F p _ q = none
  rw [upd_ne (fun z => by rw [z, hn] at h1; cases h1)]
  exact q2
/-- a new list into the store -/
theorem s_shr {e : Expr} {fl : Env → Store → Option (List D × Store)} (h : PE X e (tLf G fl)) : PE X e (tEf G fun ρ S => (fl ρ S).map fun x => (.ref x.2.length, x.2 ++ [.lst x.1])) := by
  refine pe_weak h fun σ H Q h => ?_
  obtain ⟨M, S, ρ, d, S', rl, e, h, k⟩ := h
  obtain ⟨x, hx, h⟩ := Option.map_eq_some_iff.mp h
  cases h
  refine ⟨M, S, ρ, x.1, x.2, rl, e, hx, fun p vs M1 H1 r1 x1 p1 hp hn f1 f2 => ?_⟩
  obtain ⟨r2, u2, e2⟩ := rel_share (o := .lst x.1) r1 ⟨vs, hp, p1⟩ f1 f2
  refine k _ _ _ r2 ⟨x1.up.trans u2, fun q o h1 h2 h3 => ?_⟩ ⟨by simp, by rw [e2]⟩
  obtain ⟨q1, q2, q3⟩ := x1.fgn q o h1 h2 h3
  refine ⟨q1, q2, fun a ha z => ?_⟩
  have hl : (x.2 ++ [SO.lst x.1]).length = x.2.length + 1 := by simp
  rw [hl] at ha
  by_cases hlt : a < x.2.length
  · rw [u2.m a hlt] at z
    exact q3 a hlt z
  · have ea : a = x.2.length := by omega
    rw [ea, e2] at z
    rw [← z, hn] at h1
    cases h1
def notSlice : Expr → Bool
  | .Slice _ _ _ _ => false
  | _ => true
theorem plainIx_of {b : Expr} (h : notSlice b = true) : PlainIx b := by
  intro o i
  cases b <;> first | rfl | exact nb h
theorem s_idx {a b : Expr} {fa fb : Env → Store → Option (D × Store)} {pos : Pos} (hK : X.K = G.K) (ha : PE X a (tEf G fa)) (hb : PE X b (tEf G fb)) (hs : notSlice b = true) :
    PE X (.Subscript a b pos) (tEf G fun ρ S => (fa ρ S).bind fun x => (fb ρ x.2).bind fun y => (idxD y.2 x.1 y.1).map fun d => (d, y.2)) := by
  refine pe_weak (pe_ix ix_seq ha hb (plainIx_of hs)) fun σ H Q h => ?_
  rw [hK]
  exact op2_read rIx2_ok h
theorem strOk_cut {z : Str} {lo hi : Option Int} (h : PyData.strOk z = true) : PyData.strOk (cutS z lo hi) = true := by
  unfold PyData.strOk at h ⊢
  unfold cutS
  rw [← Array.all_toList, List.all_eq_true] at h ⊢
  intro c hc
  exact h c (List.mem_of_mem_drop (List.mem_of_mem_take (by simpa using hc)))
theorem sIx_zero_full {α : Type} {l : List α} {lo hi : Option Int} (h : HT.sIx l.length 0 lo = 0 ∧ HT.sIx l.length l.length hi = l.length) : cutD l lo hi = l := by
  unfold cutD
  rw [h.1, h.2, List.drop_zero, Nat.sub_zero, List.take_length]
def rSl4 (K : PySem.W.Frag) : V → Option Int → Option Int → Hp → VK → Prop := fun x lo hi H Q => rSlA K x lo hi H Q ∨ rSlL K x lo hi H Q ∨ rSlS x lo hi H Q
theorem sl4 : SlR X (rSl4 X.K) := SlR.or sl_tupA (SlR.or sl_list sl_str)
theorem sl4_ok {M : Mp} {S : Store} {H : Hp} {x : V} {a d : D} {lo hi : Option Int} {Q : VK} (r : Rel G M S H) (p : Rp G M S.length a x) (h : sliceD a lo hi = some d)
    (k : ∀ v M' H', Rel G M' S H' → Ext M S H M' S H' → Rp G M' S.length d v → Q v H') : rSl4 G.K x lo hi H Q := by
  cases a with
  | tup l =>
    obtain ⟨p, vs, e1, s1, t1⟩ := p
    have ed := Option.some.inj (show some (D.tup (cutD l lo hi)) = some d from h)
    refine .inl ⟨p, vs, e1, sqT_up r.sub s1.sq, fun z => ?_, fun _ w hw => ?_⟩
    · refine k _ M H r .refl ?_
      rw [← t1.length] at z
      rw [← ed, sIx_zero_full z]
      exact ⟨p, vs, rfl, s1, t1⟩
    · obtain ⟨r2, x2⟩ := rel_fin (o := .tup (cutV vs lo hi)) r hw
      refine k _ _ _ r2 x2 ?_
      rw [← ed]
      exact ⟨w, _, rfl, .inl upd_same, (t1.cut lo hi).up x2.up⟩
  | lst l =>
    obtain ⟨p, vs, e1, s1, t1⟩ := p
    have ed := Option.some.inj (show some (D.lst (cutD l lo hi)) = some d from h)
    refine .inr (.inl ⟨p, vs, e1, SqL.of (r.sub _ _ s1), fun w hw => ?_⟩)
    obtain ⟨r2, x2⟩ := rel_fin (o := .lst (cutV vs lo hi)) r hw
    refine k _ _ _ r2 x2 ?_
    rw [← ed]
    exact ⟨w, _, rfl, upd_same, (t1.cut lo hi).up x2.up⟩
  | scr l =>
    obtain ⟨p, vs, e1, s1, t1⟩ := p
    have ed := Option.some.inj (show some (D.lst (cutD l lo hi)) = some d from h)
    refine .inr (.inl ⟨p, vs, e1, sqL_up r.sub s1, fun w hw => ?_⟩)
    obtain ⟨r2, x2⟩ := rel_fin (o := .lst (cutV vs lo hi)) r hw
    refine k _ _ _ r2 x2 ?_
    rw [← ed]
    exact ⟨w, _, rfl, upd_same, (t1.cut lo hi).up x2.up⟩
  | str z =>
    obtain ⟨e1, o1, l1⟩ := p
    have ed := Option.some.inj (show some (D.str (cutS z lo hi)) = some d from h)
    refine .inr (.inr ⟨z, e1, by rw [sizeLine_eq]; exact l1, k _ M H r .refl ?_⟩)
    rw [← ed]
    exact ⟨rfl, strOk_cut o1, Nat.le_trans (cutS_length z lo hi) l1⟩
  | _ => exact nn h
/-- a part of a cut: left out, or an int -/
def POf (X : Cx) (G : Gx) (e : Option Expr) (b : Bool) (f : Env → Store → Option (D × Store)) : Prop :=
  ∃ t : TO, PO X e t ∧ ∀ σ H (Q : Option Int → Hp → Prop) (M : Mp) (S : Store) (ρ : Env) (d : D) (S' : Store) (o : Option Int), Rel G M S H → EnvR G M S H σ ρ → f ρ S = some (d, S') → partD b d = some o →
    (∀ M' H', Rel G M' S' H' → Ext M S H M' S' H' → Q o H') → t σ H Q
theorem pof_none : POf X G none true fun _ S => some (.non, S) := ⟨_, po_none, fun σ H Q M S ρ d S' o r e h ho k => by
  cases h
  cases ho
  exact k M H r .refl⟩
theorem pof_some {e : Expr} {f : Env → Store → Option (D × Store)} (he : PE X e (tEf G f)) : POf X G (some e) false f := ⟨_, po_some he, fun σ H Q M S ρ d S' o r e h ho k => by
  cases d with
  | int i =>
    have ho := Option.some.inj (show some (some i) = some o from ho)
    subst ho
    exact tEf.mk r e h fun v M1 H1 r1 x1 p1 => ⟨i, p1, k M1 H1 r1 x1⟩
  | _ => exact nn ho⟩
theorem s_slice {a : Expr} {lo hi : Option Expr} {fa fl fh : Env → Store → Option (D × Store)} {bl bh : Bool} {pos p2 : Pos} (hK : X.K = G.K) (ha : PE X a (tEf G fa)) (hl : POf X G lo bl fl) (hh : POf X G hi bh fh) :
    PE X (.Subscript a (.Slice lo hi none p2) pos) (tEf G fun ρ S => (fa ρ S).bind fun x => (fl ρ x.2).bind fun y => (fh ρ y.2).bind fun z => (partD bl y.1).bind fun l => (partD bh z.1).bind fun h => (sliceD x.1 l h).map fun d => (d, z.2)) := by
  obtain ⟨tl, pl, gl⟩ := hl
  obtain ⟨th, ph, gh⟩ := hh
  refine pe_weak (pe_slice sl4 ha pl ph) fun σ H Q h => ?_
  obtain ⟨M, S, ρ, d, S', rl, e, h, k⟩ := h
  obtain ⟨x, hx, h⟩ := Option.bind_eq_some_iff.mp h
  obtain ⟨y, hy, h⟩ := Option.bind_eq_some_iff.mp h
  obtain ⟨z, hz, h⟩ := Option.bind_eq_some_iff.mp h
  obtain ⟨l, hl, h⟩ := Option.bind_eq_some_iff.mp h
  obtain ⟨u, hu, h⟩ := Option.bind_eq_some_iff.mp h
  obtain ⟨w, hw, h⟩ := Option.map_eq_some_iff.mp h
  cases h
  refine tEf.mk rl e hx fun v M1 H1 r1 x1 p1 => ?_
  refine gl _ _ _ M1 x.2 ρ y.1 y.2 l r1 (e.ext x1) hy hl fun M2 H2 r2 x2 => ?_
  refine gh _ _ _ M2 y.2 ρ z.1 z.2 u r2 ((e.ext x1).ext x2) hz hu fun M3 H3 r3 x3 => ?_
  rw [hK]
  exact sl4_ok r3 ((p1.up x2.up).up x3.up) hw fun v M4 H4 r4 x4 p4 => k v M4 H4 r4 ((x1.trans x2).trans (x3.trans x4)) p4
theorem s_rev {a : Expr} {fa : Env → Store → Option (D × Store)} {j : Nat} {p1 p2 p3 pos : Pos} (hK : X.K = G.K) (ha : PE X a (tEf G fa)) :
    PE X (.Subscript a (.Slice none none (some (.UnaryOp .USub (.Constant (.int 1) j p1) p2)) p3) pos) (tEf G fun ρ S => (fa ρ S).bind fun x => match x with | (.lst l, S1) => some (.lst l.reverse, S1) | _ => none) := by
  refine pe_weak (pe_revL ha) fun σ H Q h => ?_
  obtain ⟨M, S, ρ, d, S', rl, e, h, k⟩ := h
  obtain ⟨x, hx, h⟩ := Option.bind_eq_some_iff.mp h
  obtain ⟨x1, x2⟩ := x
  cases x1 <;> first | exact nn h | skip
  rename_i l
  have h : some (D.lst l.reverse, x2) = some (d, S') := h
  cases h
  refine tEf.mk rl e hx fun v M1 H1 r1 q1 p1 => ?_
  obtain ⟨p, vs, e1, s1, t1⟩ := p1
  refine ⟨p, vs, e1, SqL.of (r1.sub _ _ s1), fun w hw => ?_⟩
  obtain ⟨r2, q2⟩ := rel_fin (o := .lst vs.reverse) r1 hw
  exact k _ _ _ r2 (q1.trans q2) ⟨w, _, rfl, upd_same, t1.reverse.up q2.up⟩
end
end HN

/-! Built-in functions, calls, what is walked, comprehensions. -/
namespace HN
open PySem L2

/-! ### built-in functions -/
def CRok (G : Gx) (g : Store → List D → Option D) (r : List V → Hp → VK → Prop) : Prop :=
  ∀ (M : Mp) (S : Store) (H : Hp) (vs : List V) (ds : List D) (d : D) (Q : VK), Rel G M S H → RpL G M S.length ds vs → g S ds = some d →
    (∀ v M' H', Rel G M' S H' → Ext M S H M' S H' → Rp G M' S.length d v → Q v H') → r vs H Q
section
variable {G : Gx} {M : Mp} {n : Nat}
theorem ints_of : ∀ {l : List D} {vs : List V} {ns : List Int}, RpL G M n l vs → intsD l = some ns → vs = ns.map V.int
  | [], vs, ns, h, e => by
    have e1 : vs = [] := h
    cases e
    rw [e1] <;> rfl
  | d :: ds, vs, ns, h, e => by
    obtain ⟨v, r, e1, hv, t⟩ := h
    cases d <;> first | exact nn e | skip
    rename_i i
    obtain ⟨ms, h1, h2⟩ := Option.map_eq_some_iff.mp (show (intsD ds).map (i :: ·) = some ns from e)
    rw [e1, ← h2, ints_of t h1, show v = V.int i from hv] <;> rfl
theorem bools_of : ∀ {l : List D} {vs : List V} {ns : List Bool}, RpL G M n l vs → boolsD l = some ns → vs = ns.map V.bl
  | [], vs, ns, h, e => by
    have e1 : vs = [] := h
    cases e
    rw [e1] <;> rfl
  | d :: ds, vs, ns, h, e => by
    obtain ⟨v, r, e1, hv, t⟩ := h
    cases d <;> first | exact nn e | skip
    rename_i i
    obtain ⟨ms, h1, h2⟩ := Option.map_eq_some_iff.mp (show (boolsD ds).map (i :: ·) = some ns from e)
    rw [e1, ← h2, bools_of t h1, show v = V.bl i from hv] <;> rfl
theorem foldl_max_ge : ∀ (r : List Int) (a : Int), a ≤ r.foldl max a ∧ ∀ y ∈ r, y ≤ r.foldl max a
  | [], a => ⟨Int.le_refl _, fun y h => by cases h⟩
  | x :: r, a => by
    obtain ⟨h1, h2⟩ := foldl_max_ge r (max a x)
    refine ⟨Int.le_trans (Int.le_max_left a x) h1, fun y hy => ?_⟩
    rcases List.mem_cons.mp hy with e | e
    · rw [e]; exact Int.le_trans (Int.le_max_right a x) h1
    · exact h2 y e
theorem foldl_max_mem : ∀ (r : List Int) (a : Int), r.foldl max a ∈ a :: r
  | [], a => List.mem_singleton.mpr rfl
  | x :: r, a => by
    rcases List.mem_cons.mp (foldl_max_mem r (max a x)) with h | h
    · show r.foldl max (max a x) ∈ _
      rw [h]
      rcases Int.le_total a x with q | q
      · rw [Int.max_eq_right q]; exact List.mem_cons_of_mem _ List.mem_cons_self
      · rw [Int.max_eq_left q]; exact List.mem_cons_self
    · exact List.mem_cons_of_mem _ (List.mem_cons_of_mem _ h)
theorem maxI_is {ns : List Int} {m : Int} (h : m ∈ ns) (u : ∀ y ∈ ns, y ≤ m) : maxI ns = m := by
  cases ns with
  | nil => cases h
  | cons a r =>
    have h1 := foldl_max_ge r a
    have h2 := u _ (foldl_max_mem r a)
    have h3 : m ≤ r.foldl max a := by
      rcases List.mem_cons.mp h with e | e
      · rw [e]; exact h1.1
      · exact h1.2 m e
    exact Int.le_antisymm h2 h3
theorem ty_rp {S : Store} {H : Hp} {d : D} {v : V} {t : String} (r : Rel G M S H) (p : Rp G M S.length d v) (h : tyD S d = some t) : TyX G.K H v (.type t) := by
  cases d with
  | non => cases p; cases h; exact .base .non
  | bl c => cases p; cases h; exact .base (.bl _)
  | int i => cases p; cases h; exact .base (.int _)
  | str s =>
    obtain ⟨e, _⟩ := p
    rw [e]
    cases h
    exact .base (.str _)
  | tup l =>
    obtain ⟨q, vs, e, s, _⟩ := p
    rw [e]
    cases h
    rcases s.sq with (s | ⟨o, s⟩) | ⟨o, its, n, s, c, _⟩
    · exact .base (.tup (r.sub _ _ s))
    · exact .fTuple (r.sub _ _ s)
    · exact .kTuple s c
  | lst l =>
    obtain ⟨q, vs, e, s, _⟩ := p
    rw [e]
    cases h
    exact .base (.lst (r.sub _ _ s))
  | ref a =>
    have h2 : (match S[a]? with | some (.lst l) => some "list" | _ => none) = some t := h
    split at h2
    · rename_i l hl
      obtain ⟨_, e⟩ := p
      obtain ⟨⟨vs, e2, _⟩, _⟩ := r.obj a _ hl
      rw [e]
      cases h2
      exact .base (.lst e2)
    · cases h2
  | _ => exact nn h
end
section
variable {X : Cx} {G : Gx}
theorem one_rp {M : Mp} {n : Nat} {d : D} {vs : List V} (h : RpL G M n [d] vs) : ∃ v, vs = [v] ∧ Rp G M n d v := by
  obtain ⟨v, r, e, hv, t⟩ := h
  have e2 : r = [] := t
  rw [e2] at e
  exact ⟨v, e, hv⟩
theorem two_rp {M : Mp} {n : Nat} {d d' : D} {vs : List V} (h : RpL G M n [d, d'] vs) : ∃ v w, vs = [v, w] ∧ Rp G M n d v ∧ Rp G M n d' w := by
  obtain ⟨v, r, e, hv, t⟩ := h
  obtain ⟨w, e2, hw⟩ := one_rp t
  rw [e2] at e
  exact ⟨v, w, e, hv, hw⟩
theorem one_some {f : D → Option D} {ds : List D} {d : D} (h : one1 f ds = some d) : ∃ x, ds = [x] ∧ f x = some d := by
  match ds, h with
  | [x], h => exact ⟨x, rfl, h⟩
  | [], h => exact nn h
  | _ :: _ :: _, h => exact nn h
/-- a function of one value -/
theorem ok_one {g : Store → D → Option D} {r : List V → Hp → VK → Prop}
    (h : ∀ (M : Mp) (S : Store) (H : Hp) (v : V) (x d : D) (Q : VK), Rel G M S H → Rp G M S.length x v → g S x = some d → (∀ v M' H', Rel G M' S H' → Ext M S H M' S H' → Rp G M' S.length d v → Q v H') → r [v] H Q) : CRok G (fun S => one1 (g S)) r := by
  intro M S H vs ds d Q rl rs e k
  obtain ⟨x, e1, e2⟩ := one_some e
  rw [e1] at rs
  obtain ⟨v, e3, p⟩ := one_rp rs
  rw [e3]
  exact h M S H v x d Q rl p e2 k
theorem ok_len : CRok G (fun S => biD S .len) (fun xs H Q => ∃ x n, xs = [x] ∧ LenV G.K x H n ∧ Q (.int n) H) := ok_one (g := lenD) fun M S H v x d Q r p h k => by
  cases x with
  | tup l =>
    obtain ⟨p, ws, e1, s, t⟩ := p
    rw [e1]
    cases h
    exact ⟨_, ws.length, rfl, .inr ⟨ws, sqT_up r.sub s.sq, rfl⟩, k _ M H r .refl (by rw [t.length]; rfl)⟩
  | lst l =>
    obtain ⟨p, ws, e1, s, t⟩ := p
    rw [e1]
    cases h
    exact ⟨_, ws.length, rfl, .inl ⟨ws, SqL.of (r.sub _ _ s), rfl⟩, k _ M H r .refl (by rw [t.length]; rfl)⟩
  | scr l =>
    obtain ⟨p, ws, e1, s, t⟩ := p
    rw [e1]
    cases h
    exact ⟨_, ws.length, rfl, .inl ⟨ws, sqL_up r.sub s, rfl⟩, k _ M H r .refl (by rw [t.length]; rfl)⟩
  | str z =>
    obtain ⟨e1, o, l⟩ := p
    rw [e1]
    cases h
    exact ⟨_, z.length, rfl, ⟨by rw [sizeLine_eq]; exact l, rfl⟩, k _ M H r .refl rfl⟩
  | ref a =>
    have h2 : (match S[a]? with | some (.lst l) => some (D.int l.length) | _ => none) = some d := h
    split at h2
    · rename_i l hl
      obtain ⟨_, e1⟩ := p
      obtain ⟨⟨ws, e2, t⟩, _⟩ := r.obj a _ hl
      rw [e1]
      cases h2
      exact ⟨_, ws.length, rfl, .inl ⟨ws, SqL.of e2, rfl⟩, k _ M H r .refl (by rw [t.length]; rfl)⟩
    · cases h2
  | _ => exact nn h
theorem ok_abs : CRok G (fun S => biD S .abs) (fun xs H Q => ∃ i, xs = [V.int i] ∧ Q (.int (if i < 0 then -i else i)) H) := ok_one (g := fun _ => absD) fun M S H v x d Q r p h k => by
  cases x <;> first | exact nn h | skip
  rename_i i
  cases h
  exact ⟨i, congrArg (fun z => [z]) p, k _ M H r .refl rfl⟩
theorem ok_int1 : CRok G (fun S => biD S .int) (fun xs H Q => (∃ i, xs = [V.int i] ∧ Q (.int i) H) ∨ ∃ k, xs = [V.bl k] ∧ Q (.int (if k then 1 else 0)) H) := ok_one (g := fun _ => intD) fun M S H v x d Q r p h k => by
  cases x <;> first | exact nn h | skip
  · rename_i i
    cases h
    exact .inr ⟨i, congrArg (fun z => [z]) p, k _ M H r .refl rfl⟩
  · rename_i i
    cases h
    exact .inl ⟨i, congrArg (fun z => [z]) p, k _ M H r .refl rfl⟩
theorem ok_str1 : CRok G (fun S => biD S .str) (fun xs H Q => ∃ i : Int, xs = [V.int i] ∧ i.natAbs.log2 < 1920 ∧ Q (.str (toString i)) H) := ok_one (g := fun _ => strD) fun M S H v x d Q r p h k => by
  cases x <;> first | exact nn h | skip
  rename_i i
  have h2 : (if decide (i.natAbs.log2 < 1920) && PyData.strOk (toString i) && szOk (Str.ofString (toString i)).length then some (D.str (toString i)) else none) = some d := h
  split at h2
  · rename_i c
    simp only [Bool.and_eq_true, decide_eq_true_eq] at c
    cases h2
    exact ⟨i, congrArg (fun z => [z]) p, c.1.1, k _ M H r .refl ⟨rfl, c.1.2, of_decide_eq_true c.2⟩⟩
  · cases h2
theorem ok_max1 : CRok G (fun S => biD S .max1) (rMax G.K) := ok_one (g := fun _ => maxD) fun M S H v x d Q r p h k => by
  cases x <;> first | exact nn h | skip
  rename_i l
  obtain ⟨p, ws, e1, s, t⟩ := p
  obtain ⟨ns, h1, h2⟩ := Option.bind_eq_some_iff.mp (show ((intsD l).bind fun ns => if ns.isEmpty then none else some (D.int (maxI ns))) = some d from h)
  have ew := ints_of t h1
  cases ns with
  | nil => exact nn h2
  | cons a q =>
    have h2 := Option.some.inj (show some (D.int (maxI (a :: q))) = some d from h2)
    refine ⟨p, a :: q, by rw [e1], by rw [← ew]; exact SqL.of (r.sub _ _ s), Nat.succ_pos _, fun m hm hu => ?_⟩
    refine k _ M H r .refl ?_
    rw [← h2, maxI_is hm hu]
    rfl
theorem ok_sum : CRok G (fun S => biD S .sum) (rSum G.K) := ok_one (g := fun _ => sumD) fun M S H v x d Q r p h k => by
  cases x <;> first | exact nn h | skip
  rename_i l
  obtain ⟨p, ws, e1, s, t⟩ := p
  obtain ⟨ns, h1, h2⟩ := Option.map_eq_some_iff.mp (show ((intsD l).map fun ns => D.int ns.sum) = some d from h)
  have ew := ints_of t h1
  exact ⟨p, ns, by rw [e1], by rw [← ew]; exact SqL.of (r.sub _ _ s), k _ M H r .refl (by rw [← h2]; rfl)⟩
theorem ok_all : CRok G (fun S => biD S .all) (rAll G.K) := ok_one (g := fun _ => allD) fun M S H v x d Q r p h k => by
  cases x <;> first | exact nn h | skip
  rename_i l
  obtain ⟨p, ws, e1, s, t⟩ := p
  obtain ⟨ns, h1, h2⟩ := Option.map_eq_some_iff.mp (show ((boolsD l).map fun ns => D.bl (ns.all id)) = some d from h)
  have ew := bools_of t h1
  exact ⟨p, ns, by rw [e1], by rw [← ew]; exact SqL.of (r.sub _ _ s), k _ M H r .refl (by rw [← h2]; rfl)⟩
theorem ok_tuple : CRok G (fun S => biD S .tuple) (fun xs H Q => ∃ p ys, xs = [V.ref p] ∧ ((SqL G.K H p ys ∧ ∀ l, H l = none → Q (.ref l) (upd H l (.tup ys))) ∨ (SqT G.K H p ys ∧ Q (.ref p) H))) := ok_one (g := tupleD) fun M S H v x d Q r p h k => by
  have fin : ∀ (l : List D) (ws : List V), RpL G M S.length l ws → d = .tup l → ∀ q, H q = none → Q (.ref q) (upd H q (.tup ws)) := fun l ws t e q hq => by
    obtain ⟨r2, x2⟩ := rel_fin (o := .tup ws) r hq
    refine k _ _ _ r2 x2 ?_
    rw [e]
    exact ⟨q, ws, rfl, .inl upd_same, t.up x2.up⟩
  cases x with
  | lst l =>
    obtain ⟨p, ws, e1, s, t⟩ := p
    exact ⟨p, ws, by rw [e1], .inl ⟨SqL.of (r.sub _ _ s), fin l ws t (Option.some.inj h).symm⟩⟩
  | tup l =>
    obtain ⟨p, ws, e1, s, t⟩ := p
    exact ⟨p, ws, by rw [e1], .inr ⟨sqT_up r.sub s.sq, k _ M H r .refl (by rw [← Option.some.inj h]; exact ⟨p, ws, rfl, s, t⟩)⟩⟩
  | ref a =>
    have h2 : (match S[a]? with | some (.lst l) => some (D.tup l) | _ => none) = some d := h
    split at h2
    · rename_i l hl
      obtain ⟨_, e1⟩ := p
      obtain ⟨⟨ws, e2, t⟩, _⟩ := r.obj a _ hl
      exact ⟨M.m a, ws, by rw [e1], .inl ⟨SqL.of e2, fin l ws t (Option.some.inj h2).symm⟩⟩
    · cases h2
  | _ => exact nn h
/-- list(..) of a list or a tuple; of an empty dict -/
def rListOf (K : PySem.W.Frag) : List V → Hp → VK → Prop := fun xs H Q => (∃ p ys, xs = [V.ref p] ∧ (SqL K H p ys ∨ SqT K H p ys) ∧ ∀ l, H l = none → Q (.ref l) (upd H l (.lst ys))) ∨ ∃ d kvs, xs = [V.ref d] ∧ Rd H d (.dT kvs) ∧ ∀ p bs, H p = none → IsKeys H kvs bs → Q (.ref p) (upd H p (.lst (bs.map V.ref)))
theorem cr_or {X : Cx} {c : Value} {r r' : List V → Hp → VK → Prop} (h : CallR X c r) (h' : CallR X c r') : CallR X c (fun xs H Q => r xs H Q ∨ r' xs H Q) := fun pins s σ H xs us Q I rv z => z.elim (h pins s σ H xs us Q I rv) (h' pins s σ H xs us Q I rv)
theorem keyV (k : List Int) : (k.map Sum.inl).map kV = k.map V.int := by rw [List.map_map] <;> rfl
theorem int_rp {M : Mp} {n : Nat} : ∀ k : List Int, RpL G M n (k.map D.int) (k.map V.int)
  | [] => rfl
  | i :: k => RpL.cons (show V.int i = V.int i from rfl) (int_rp k)
/-- the keys of a dict stand as tuples -/
theorem keys_rp {M : Mp} {S : Store} {H : Hp} (r : Rel G M S H) : ∀ {ks : List (List Int)} {bs : List Addr}, IsKeys H (ks.map fun k => (k.map Sum.inl, V.bl true)) bs → RpL G M S.length (ks.map keyT) (bs.map V.ref)
  | [], _, h => by cases h; rfl
  | k :: ks, _, h => by
    cases h with
    | cons h1 h2 =>
      refine RpL.cons ⟨_, k.map V.int, rfl, .inl (r.tup _ _ ?_), int_rp k⟩ (keys_rp r h2)
      rw [← keyV k]
      exact h1
theorem ok_list : CRok G (fun S => biD S .list) (rListOf G.K) := ok_one (g := listS) fun M S H v x d Q r p h k => by
  have fin : ∀ (l : List D) (ws : List V), RpL G M S.length l ws → d = .lst l → ∀ q, H q = none → Q (.ref q) (upd H q (.lst ws)) := fun l ws t e q hq => by
    obtain ⟨r2, x2⟩ := rel_fin (o := .lst ws) r hq
    refine k _ _ _ r2 x2 ?_
    rw [e]
    exact ⟨q, ws, rfl, upd_same, t.up x2.up⟩
  cases x with
  | lst l =>
    obtain ⟨p, ws, e1, s, t⟩ := p
    exact .inl ⟨p, ws, by rw [e1], .inl (SqL.of (r.sub _ _ s)), fin l ws t (Option.some.inj h).symm⟩
  | tup l =>
    obtain ⟨p, ws, e1, s, t⟩ := p
    exact .inl ⟨p, ws, by rw [e1], .inr (sqT_up r.sub s.sq), fin l ws t (Option.some.inj h).symm⟩
  | dic =>
    obtain ⟨p, e1, s⟩ := p
    refine .inr ⟨p, [], by rw [e1], .inl (r.sub _ _ s), fun q bs hq hb => ?_⟩
    cases hb
    exact fin [] [] RpL.nil (Option.some.inj h).symm q hq
  | ref a =>
    have h2 : (match S[a]? with | some (.dct ks) => some (D.lst (ks.map keyT)) | _ => none) = some d := h
    split at h2
    · rename_i ks hl
      obtain ⟨_, e1⟩ := p
      obtain ⟨⟨e2, _⟩, _⟩ := r.obj a _ hl
      refine .inr ⟨M.m a, _, by rw [e1], .inl e2, fun q bs hq hb => ?_⟩
      exact fin (ks.map keyT) (bs.map V.ref) (keys_rp r hb) (Option.some.inj h2).symm q hq
    · cases h2
  | _ => exact nn h
/-- repr of data -/
def rRepr (K : PySem.W.Frag) : List V → Hp → VK → Prop := fun xs H Q => ∃ (v : V) (d : PyData), xs = [v] ∧ Dp K H v d ∧ PyProof.Rows.isDisplay d = true ∧ d.showable = true ∧ d.canLay0 = true ∧ d.depth ≤ 60 ∧ d.shown.length ≤ 16777216 ∧ Q (.str d.shown) H
theorem cr_repr {X : Cx} (hg : X.A.guards = some []) (hu : X.A.units + 65 < cLine) : CallR X (.builtin "repr") (rRepr X.K) := by
  intro pins s σ H xs us Q I rv h
  obtain ⟨v, d, rfl, hd, h1, h2, h3, h4, h5, q⟩ := h
  obtain ⟨u, rfl, ru⟩ := rv.one
  obtain ⟨as, rd⟩ := Dp.reads I d v u hd ru
  obtain ⟨a, rfl⟩ := PyProof.Rows.isRef_of_reads rd h1
  exact PySem.repr_of_reads' rd h2 (PySem.PyData.noDict_hsm (PySem.PyData.hasDict_of_canLay d h3)) hg (by omega) (fun _ _ e => e) (fun h' u tk hk => ⟨.str d.shown, H, I.kept hk, ⟨u, rfl⟩, q⟩) (by rw [sizeLine_eq]; exact h5)
theorem disp_py {d : D} (h : D.data d = true) (hz : D.dep d ≠ 0) : PyProof.Rows.isDisplay (toPy d) = true := by
  cases d <;> first | rfl | exact absurd rfl hz | cases h
theorem ok_repr : CRok G (fun S => biD S .repr) (rRepr G.K) := ok_one (g := fun _ => reprD) fun M S H v x d Q r p h k => by
  unfold reprD at h
  split at h
  · rename_i c
    simp only [Bool.and_eq_true, decide_eq_true_eq] at c
    obtain ⟨c1, c2, c3, c4, c5, c6⟩ := c
    cases h
    refine ⟨v, toPy x, rfl, dp_of r.sub c1 p, disp_py c1 c2, c4, lay_of c1 p, by rw [dep_py x c1]; exact c3, of_decide_eq_true c5, k _ M H r .refl ⟨rfl, c6, of_decide_eq_true c5⟩⟩
  · cases h
theorem ok_max2 : CRok G (fun S => biD S .max2) (fun xs H Q => ∃ i j, xs = [V.int i, V.int j] ∧ Q (.int (if j > i then j else i)) H) := by
  intro M S H vs ds d Q r rs h k
  match ds, h with
  | [], h => exact nn h
  | [_], h => exact nn h
  | _ :: _ :: _ :: _, h => exact nn h
  | [x, y], h =>
    cases x <;> cases y <;> first | exact nn h | skip
    rename_i i j
    obtain ⟨v, w, e, e1, e2⟩ := two_rp rs
    cases h
    refine ⟨i, j, by rw [e, show v = V.int i from e1, show w = V.int j from e2], k _ M H r .refl ?_⟩
    rfl
theorem bi_read {g : Store → List D → Option D} {r : List V → Hp → VK → Prop} {fs : Env → Store → Option (List D × Store)} {σ : L2.St} {H : Hp} {Q : VK} (ok : CRok G g r)
    (h : tEf G (fun ρ S => (fs ρ S).bind fun x => (g x.2 x.1).map fun d => (d, x.2)) σ H Q) : tCB r (tAf G fs) σ H Q := by
  obtain ⟨M, S, ρ, d, S', rl, e, h, k⟩ := h
  obtain ⟨x, hx, h⟩ := Option.bind_eq_some_iff.mp h
  obtain ⟨z, hz, h⟩ := Option.map_eq_some_iff.mp h
  cases h
  exact tAf.mk rl e hx fun vs M1 H1 r1 x1 p1 => ok M1 x.2 H1 vs x.1 d Q r1 p1 hz fun u M3 H3 r3 x3 p3 => k u M3 H3 r3 (x1.trans x3) p3
/-- by its name -/
theorem s_biB {id : String} {x : Str} {r : List V → Hp → VK → Prop} {g : Store → List D → Option D} {fs : Env → Store → Option (List D × Store)} {p pos : Pos} {e : Expr} {es : List Expr} (ok : CRok G g r) (hc : CallR X (.builtin id) r) (hg : Gl X x) (hm : X.mg x = none) (hv : bootBuiltins x = some (.builtin id))
    (ha : PA X (e :: es) (tAf G fs)) (hn : x ≠ "__name__") (hd : (x == ("__debug__" : Str)) = false) (hs : notStar e = true) (hss : es.all notStar = true) : PE X (.Call (.Name x p) (e :: es) [] pos) (tEf G fun ρ S => (fs ρ S).bind fun x => (g x.2 x.1).map fun d => (d, x.2)) :=
  pe_weak (pe_callB hc hg hm hv ha hn hd (star_cons hs) (plain_any hss)) fun σ H Q h => bi_read ok h
theorem s_biT {id : String} {x : Str} {r : List V → Hp → VK → Prop} {g : Store → List D → Option D} {fs : Env → Store → Option (List D × Store)} {p pos : Pos} {e : Expr} {es : List Expr} (ok : CRok G g r) (hc : CallR X (.type id) r) (hg : Gl X x) (hm : X.mg x = none) (hv : bootBuiltins x = some (.type id))
    (ha : PA X (e :: es) (tAf G fs)) (hn : x ≠ "__name__") (hd : (x == ("__debug__" : Str)) = false) (hs : notStar e = true) (hss : es.all notStar = true) : PE X (.Call (.Name x p) (e :: es) [] pos) (tEf G fun ρ S => (fs ρ S).bind fun x => (g x.2 x.1).map fun d => (d, x.2)) :=
  pe_weak (pe_callTy hc hg hm hv ha hn hd (star_cons hs) (plain_any hss)) fun σ H Q h => bi_read ok h
/-- isinstance(e, T) -/
theorem s_isinst {x y : Str} {T : String} {fe : Env → Store → Option (D × Store)} {p p2 pos : Pos} {e : Expr} (hK : X.K = G.K) (hx : x = "isinstance") (hg : Gl X x) (hm : X.mg x = none) (hg2 : Gl X y) (hm2 : X.mg y = none) (hv2 : bootBuiltins y = some (.type T)) (hn2 : y ≠ "__name__") (hd2 : (y == ("__debug__" : Str)) = false)
    (he : PE X e (tEf G fe)) (hs : notStar e = true) (hT : ∀ t, t ∈ ["NoneType", "bool", "int", "str", "tuple", "list"] → kitB t T = some (isT T t)) :
    PE X (.Call (.Name x p) [e, .Name y p2] [] pos) (tEf G fun ρ S => (fe ρ S).bind fun x => (tyD x.2 x.1).map fun t => (.bl (isT T t), x.2)) := by
  subst hx
  refine pe_weak (pe_callB (r := rIsi X.K) call_isi hg hm PyProof.Rows.boot_isinstance (pa_cons he (pa_cons (pe_bltn hg2 hm2 hv2 (show RelV (.ty T) (.type T) from rfl) hn2 hd2) pa_nil (star_cons rfl)) (star_cons hs)) (by decide) (by decide) (star_cons hs) (plain_any rfl)) fun σ H Q h => ?_
  obtain ⟨M, S, ρ, d, S', rl, en, h, k⟩ := h
  obtain ⟨x, hx, h⟩ := Option.bind_eq_some_iff.mp h
  obtain ⟨t, ht, h⟩ := Option.map_eq_some_iff.mp h
  cases h
  refine tEf.mk rl en hx fun v M1 H1 r1 x1 p1 => ?_
  have mem : t ∈ ["NoneType", "bool", "int", "str", "tuple", "list"] := by
    cases hx1 : x.1 with
    | ref a =>
      rw [hx1] at ht
      have h2 : (match x.2[a]? with | some (.lst l) => some "list" | _ => none) = some t := ht
      split at h2
      · cases h2; simp
      · cases h2
    | _ => rw [hx1] at ht; first | exact nn ht | (cases ht; simp)
  exact ⟨v, .ty T, .type t, .type T, isT T t, rfl, .ty T, by rw [hK]; exact ty_rp r1 p1 ht, kit_ty (hT t mem), k _ M1 H1 r1 x1 rfl⟩
end
end HN

/-! max(.., default=0) of a list of ints. -/
namespace HN
open PySem PySem.Spec PyProof.Rows L2
open PySem.W (AlikeAll max_list_default maxD_ints)
def rMaxDef (K : PySem.W.Frag) : List V → List V → Hp → VK → Prop := fun vs zs H Q => ∃ (a : Addr) (ns : List Int), vs = [.ref a] ∧ zs = [.int 0] ∧ SqL K H a (ns.map V.int) ∧ Q (.int (if ns.isEmpty then 0 else maxI ns)) H
theorem reads_ints {h : Heap} : ∀ {ns : List Int} {its : List Value}, Vals (ns.map V.int) its → ReadsAll h its (ns.map PyData.int) []
  | [], its, r => by
    cases r
    exact .nil
  | n :: ns, its, r => by
    cases r with
    | cons r1 r2 =>
      obtain ⟨t, rfl⟩ := r1
      exact .cons (.int n t) (reads_ints r2)
theorem alike_ints (ns : List Int) : AlikeAll (ns.map PyData.int) := by
  refine ⟨fun x hx y hy => ?_, fun x hx => ?_⟩
  · obtain ⟨a, _, rfl⟩ := List.mem_map.mp hx
    obtain ⟨b, _, rfl⟩ := List.mem_map.mp hy
    rfl
  · obtain ⟨a, _, rfl⟩ := List.mem_map.mp hx
    exact fun e => by cases e
theorem depth_ints : ∀ ns : List Int, PyData.depthAll (ns.map PyData.int) = 0
  | [] => rfl
  | n :: ns => by
    have ih := depth_ints ns
    simp [PyData.depthAll, PyData.depth, ih]
theorem cr_maxDef {X : Cx} (hc : X.calm = true) (hu : X.A.units + 65 < cLine) : CallRK X (.builtin "max") [Str.ofString "default"] (rMaxDef X.K) := by
  intro pins s σ H xs zs us ws Q I r rz h
  obtain ⟨a, ns, rfl, rfl, hs, q⟩ := h
  obtain ⟨its, rv, hl, _⟩ := I.list hs
  rw [Vals.ref1 r]
  cases rz with
  | cons z1 z2 =>
    cases z2
    obtain ⟨t, rfl⟩ := z1
    show wpAny _ _ (call (.builtin "max") [.ref a] [(Str.ofString "default", .int 0 t)]) _ _ _
    refine max_list_default (I.ok.hd hc) hl.isList (reads_ints (by simpa using rv)) (alike_ints ns) (by rw [depth_ints]; omega) (fun e h' tk hk => ?_) fun y ys i v h' tk bs e hv hr hk => ?_
    · cases ns with
      | nil => exact ⟨.int 0, H, I.kept hk, ⟨t, rfl⟩, q⟩
      | cons _ _ => cases e
    · cases ns with
      | nil => cases e
      | cons n ns =>
        have e : PyData.int n :: ns.map PyData.int = y :: ys := e
        injection e with e1 e2
        subst e1 e2
        rw [maxD_ints] at hr
        cases hr with
        | int _ t => exact ⟨.int _, H, I.kept hk, ⟨t, rfl⟩, q⟩
theorem s_maxDef {X : Cx} {G : Gx} {x : Str} {e : Expr} {fe : Env → Store → Option (D × Store)} {p pos kp cp : Pos} {k : Nat} (hK : X.K = G.K) (hc : X.calm = true) (hu : X.A.units + 65 < cLine) (hx : x = "max") (hg : Gl X x) (hm : X.mg x = none) (hd : (x == ("__debug__" : Str)) = false)
    (he : PE X e (tEf G fe)) (hs : notStar e = true) : PE X (.Call (.Name x p) [e] [⟨some "default", .Constant (.int 0) k cp, kp⟩] pos) (tEf G fun ρ S => (fe ρ S).bind fun x => (max0D x.1).map fun d => (d, x.2)) := by
  subst hx
  refine pe_weak (pe_callBK (cr_maxDef hc hu) hg hm (by decide +kernel) (pa_cons he pa_nil (star_cons hs)) (pk_cons pe_int pk_nil) (by decide) hd (by rw [star_cons hs] <;> rfl) (plain_any (by rw [List.all_cons, hs] <;> rfl)) rfl rfl rfl) fun σ H Q h => ?_
  obtain ⟨M, S, ρ, d, S', rl, en, h, kk⟩ := h
  obtain ⟨⟨x1, x2⟩, hx1, h⟩ := Option.bind_eq_some_iff.mp h
  obtain ⟨d', hd', h⟩ := Option.map_eq_some_iff.mp h
  cases h
  refine tEf.mk rl en hx1 fun v M1 H1 r1 q1 p1 => ?_
  cases x1 with
  | lst l =>
    obtain ⟨q, ws, e1, s, t⟩ := p1
    obtain ⟨ns, h1, h2⟩ := Option.map_eq_some_iff.mp (show ((intsD l).map fun ns => D.int (if ns.isEmpty then 0 else maxI ns)) = some d from hd')
    have ew := ints_of t h1
    show rMaxDef X.K [v] [.int 0] H1 Q
    refine ⟨q, ns, by rw [e1], rfl, ?_, ?_⟩
    · rw [hK, ← ew]; exact SqL.of (r1.sub _ _ s)
    · exact kk _ M1 H1 r1 q1 (by rw [← h2]; rfl)
  | _ => exact nn hd'
end HN

/-! Calls where no repr is under way: what a def promises, the call, the def by its body, the law's head. -/
namespace HN
open PySem PySem.Spec PyProof.Rows L2
/-- as FnOk, told of a place where no repr is under way -/
structure FnG (P : Program) (w : World) (K : PySem.W.Frag) (mg : Str → Option Value) (base : Heap) (n : Nat) (f : Addr) (fd : FuncData) (ps : List Str) (sp : Sp) : Prop where
  len : ∀ us H R E, sp us H R E → us.length = ps.length
  run : ∀ (B : Around) (fs : List PySem.Env) (st : Shared) (H : Hp) (as : Args) (xs : List Value) (ys : List V) (R : VK) (E : XK), Room n B → B.guards = some [] → Env0 P w K mg base B fs st H → BindsTo st fd as (ps.zip xs) → Vals ys xs → sp ys H R E → codeAny (model P w) B (.call (.ref f) as) (CR CX0 fs P w H st R E) st
theorem FnG.imp {P : Program} {w : World} {K : PySem.W.Frag} {mg : Str → Option Value} {base : Heap} {n : Nat} {f : Addr} {fd : FuncData} {ps : List Str} {sp sp' : Sp} (F : FnG P w K mg base n f fd ps sp) (h : ∀ ys H R E, sp' ys H R E → sp ys H R E) : FnG P w K mg base n f fd ps sp' :=
  ⟨fun ys H R E q => F.len ys H R E (h _ _ _ _ q), fun B fs st H as xs ys R E h1 h2 h3 h4 h5 q => F.run B fs st H as xs ys R E h1 h2 h3 h4 h5 (h _ _ _ _ q)⟩
section
variable {X : Cx} {n : Nat} {f : Addr} {fd : FuncData} {ps : List Str} {sp : Sp}
/-- behind the call -/
theorem cr_ends {pins : List (Addr × Obj)} {σ : L2.St} {H : Hp} {st : Shared} {R : VK} {E : XK} (hx : Passes CX0 X E) (I : Inv X pins σ H st) {r : Result} {s' : Shared} (h : CR CX0 X.stack X.prog X.w H st R E r s') : callEnd (EP X pins σ R) X.xe r s' := by
  match r, h with
  | .error e, h => exact hx pins σ H st e s' I h
  | .ok (.ret u), h => exact I.after h
  | .ok .next, h => exact h.elim
  | .ok .brk, h => exact h.elim
  | .ok .cont, h => exact h.elim
theorem g_run {pins : List (Addr × Obj)} {σ : L2.St} {H : Hp} {st : Shared} {R : VK} {E : XK} {xs : List Value} {ys : List V} (F : FnG X.prog X.w X.K X.mg X.base n f fd ps sp) (hr : Room n X.A) (hg : X.A.guards = some []) (hb : Binds X.K fd ps []) (hx : Passes CX0 X E)
    (I : Inv X pins σ H st) (r : Vals ys xs) (h : sp ys H R E) : wpAny (model X.prog X.w) X.A (call (.ref f) xs) (EP X pins σ R) X.xe st := by
  have hl : (xs ++ []).length = ps.length := by rw [List.append_nil, ← r.length]; exact F.len _ _ _ _ h
  have b := hb st xs I.kIn hl
  rw [List.append_nil] at b
  exact wpAny_call (codeAny_mono (F.run X.A X.stack st H ⟨xs, []⟩ xs ys R E hr hg I.env0 b r h) fun q s' z => cr_ends hx I z)
theorem g_call {x : Str} {p pos : Pos} {e : Expr} {es : List Expr} {t : TA} {E : XK} (F : FnG X.prog X.w X.K X.mg X.base n f fd ps sp) (hr : Room n X.A) (hg : X.A.guards = some []) (gl : Gl X x) (hm : X.mg x = some (.ref f)) (hk : PySem.W.keepIn X.K (.ref f) = true) (hb : Binds X.K fd ps []) (hx : Passes CX0 X E)
    (ha : PA X (e :: es) t) (hd : (x == ("__debug__" : Str)) = false) (he : starEach (e :: es) X.env = (false, eval e X.env) :: starEach es X.env) (hp : (backTo pos (starEach es X.env)).any (·.1) = false) :
    PE X (.Call (.Name x p) (e :: es) [] pos) (tCall sp [] E t) := by
  refine ⟨fun pins st σ H R I h => wpAny_Call_Name_kw (ld_glob I gl hm ?_ hd)⟩
  refine PySem.W.callWith_K (h₀ := X.base) I.ok.mod.kin hk (thn (ha.run pos pins st σ H _ I h) fun us s1 z => ?_) he hp
  obtain ⟨vs, H1, I1, r, q⟩ := z
  rw [List.append_nil] at q
  exact ⟨I1.kIn, g_run F hr hg hb hx I1 r q⟩
theorem g_call0 {x : Str} {p pos : Pos} {E : XK} (F : FnG X.prog X.w X.K X.mg X.base n f fd ps sp) (hr : Room n X.A) (hg : X.A.guards = some []) (gl : Gl X x) (hm : X.mg x = some (.ref f)) (hk : PySem.W.keepIn X.K (.ref f) = true) (hb : Binds X.K fd ps []) (hx : Passes CX0 X E)
    (hd : (x == ("__debug__" : Str)) = false) : PE X (.Call (.Name x p) [] [] pos) (tCall sp [] E tNil) :=
  ⟨fun pins st σ H R I h => wpAny_Call_Name_kw (ld_glob I gl hm (PySem.W.callWith_K0 I.kIn hk (g_run (xs := []) F hr hg hb hx I .nil h)) hd)⟩
theorem g_runK {pins : List (Addr × Obj)} {σ : L2.St} {H : Hp} {st : Shared} {R : VK} {E : XK} {xs ws : List Value} {ys zs : List V} {ks : List Str} {g : List Value → List Value → List Value} {gV : List V → List V → List V} (F : FnG X.prog X.w X.K X.mg X.base n f fd ps sp) (hr : Room n X.A) (hg : X.A.guards = some [])
    (hb : KBinds X.K fd ps ks g gV) (hx : Passes CX0 X E) (I : Inv X pins σ H st) (r : Vals ys xs) (rz : Vals zs ws) (h : sp (gV ys zs) H R E) : wpAny (model X.prog X.w) X.A (call (.ref f) xs (ks.zip ws)) (EP X pins σ R) X.xe st := by
  have rr := hb.rel r rz
  have hl : (g xs ws).length = ps.length := by rw [← rr.length]; exact F.len _ _ _ _ h
  exact wpAny_call (codeAny_mono (F.run X.A X.stack st H ⟨xs, ks.zip ws⟩ (g xs ws) (gV ys zs) R E hr hg I.env0 (hb.to st xs ws I.kIn hl) rr h) fun q s' z => cr_ends hx I z)
theorem g_callK {x : Str} {p pos : Pos} {e : Expr} {es : List Expr} {kws : List Keyword} {t tk : TA} {E : XK} {ks : List Str} {g : List Value → List Value → List Value} {gV : List V → List V → List V} (F : FnG X.prog X.w X.K X.mg X.base n f fd ps sp) (hr : Room n X.A) (hg : X.A.guards = some []) (gl : Gl X x)
    (hm : X.mg x = some (.ref f)) (hk : PySem.W.keepIn X.K (.ref f) = true) (hb : KBinds X.K fd ps ks g gV) (hx : Passes CX0 X E) (ha : PA X (e :: es) t) (hkw : PK X kws tk) (hall : (backToKw pos (keywordEach kws X.env)).all (·.1.isSome) = true) (hks : (backToKw pos (keywordEach kws X.env)).filterMap (·.1) = ks)
    (hd : (x == ("__debug__" : Str)) = false) (he : starEach (e :: es) X.env = (false, eval e X.env) :: starEach es X.env) (hp : ((backTo pos (starEach (e :: es) X.env)).any (·.1) || (backToKw pos (keywordEach kws X.env)).any (·.1.isNone)) = false) :
    PE X (.Call (.Name x p) (e :: es) kws pos) (tCallK sp gV E t tk) := by
  refine ⟨fun pins st σ H R I h => wpAny_Call_Name_kw (ld_glob I gl hm ?_ hd)⟩
  refine PySem.W.callWith_KW (h₀ := X.base) I.ok.mod.kin hk hall (thn (ha.run pos pins st σ H _ I h) fun us s1 z => ?_) hp he
  obtain ⟨vs, H1, I1, r, q⟩ := z
  refine thn (hkw.run pos pins s1 σ H1 _ I1 q) fun ws s2 z2 => ?_
  obtain ⟨zs, H2, I2, rz, q2⟩ := z2
  exact ⟨I2.kIn, by rw [hks]; exact g_runK F hr hg hb hx I2 r rz q2⟩
end
/-- the def, by its body -/
theorem g_def {P : Program} {w : World} {K : PySem.W.Frag} {mg : Str → Option Value} {base : Heap} {x qual : Str} {params : Arguments} {body : List Stmt} {scope : Scope} {dvs : List V} {kws : List (Str × V)} {f : Addr} {fd : FuncData} {N ps : List Str} {n : Nat} {sp : Sp}
    (F : FunD K x qual params body scope dvs kws f fd) (S : FnScope N ps scope) (len : ∀ ys H R E, sp ys H R E → ys.length = ps.length)
    (hbody : ∀ (cdv : Value) (B : Around) (fs : List PySem.Env) (st : Shared) (H : Hp) (ys : List V) (R : VK) (E : XK), Room n (B.deeper (envOfC qual scope st.heap.objs.size f cdv)) → B.guards = some [] → sp ys H R E →
      ∃ t, PSs (cxOf CX0 P w K mg base N qual scope f cdv B fs st H E) body t ∧ t { nx := fun _ H' => R .non H', rt := R } (L2.start N ys) H) : FnG P w K mg base (n + 1) f fd ps sp := by
  obtain ⟨oc, od, dV, kV, doc, pm, an, cdv, ct, osl, rfl, lk, hcd, _, _⟩ := F.ex
  refine ⟨len, fun B fs st H as xs ys R E hr hg e0 hb r hsp => ?_⟩
  have kx : K.In st.heap := e0.mod.kin.keeps fun b o e => (e0.bs b o e).1
  have nolim : st.heap.NoLimit := e0.mod.nolimit.keeps fun b o e => (e0.bs b o e).1
  have kinds : ∀ y ∈ ps.zip xs, scope.names.lookup y.1 = some .local ∨ (scope.names.lookup y.1 = some .cell ∧ ((cellsFrom (st.heap.objs.size + 1) scope.names []).lookup y.1).isSome = true) := fun y hy => by
    rcases S.par y.1 (List.of_mem_zip (show (y.1, y.2) ∈ ps.zip xs from hy)).1 with q | q
    · exact .inl q
    · exact .inr ⟨q, PySem.W.cellsFrom_some _ _ _ (.inl q)⟩
  refine codeAny_call_function hr.depth (kx _ _ lk) rfl S.co S.gen rfl (PySem.W.codeRec_of kx hcd) (hb _ _ _ _ (wpAny_newFunctionEnv_cells S.kind kinds fun env he s1 z => ?_))
  subst he
  refine ⟨nolim.keeps z.toInCall.keep, codeAny_func ?_⟩
  obtain ⟨t, ht, hq⟩ := hbody cdv B fs st H ys R E (hr.deeper _) hg hsp
  have I := inv_start (E := E) (CX := CX0) S hr.hd e0 (len _ _ _ _ hsp) r z
  have done : ∀ {σ' : L2.St} {H' : Hp} {v : V} {u : Value} {s' : Shared}, Inv (cxOf CX0 P w K mg base N qual scope f cdv B fs st H E) [] σ' H' s' → RelV v u → R v H' → CE fs P w H st R u s' := fun J rv q => ⟨_, _, J.os, J.bare, J.base, J.hok, rv, q⟩
  refine wpAny_mono (ht.run [] s1 (L2.start N ys) H _ I hq) (fun fl s' hs => ?_) fun _ _ z => z
  match fl, hs with
  | .ret u, ⟨v, σ', H', J, rv, q⟩ => exact done J rv q
  | .next, ⟨σ', H', J, q⟩ => exact done (v := V.non) (u := Value.none) J rfl q
  | .brk, ⟨_, _, _, q⟩ => exact q.elim
  | .cont, ⟨_, _, _, q⟩ => exact q.elim
end HN

/-! Calls, what is walked, comprehensions. -/
namespace HN
open PySem L2

/-! ### calls -/
/-- what a def of the text keeps: it does what cf says -/
def spF (G : Gx) (np : Nat) (cf : List D → Store → Option (D × Store)) : Sp := fun vs H Q _ => ∃ (M : Mp) (S : Store) (ds : List D) (d : D) (S' : Store), vs.length = np ∧ Rel G M S H ∧ RpL G M S.length ds vs ∧ cf ds S = some (d, S') ∧
  ∀ v M' H', Rel G M' S' H' → Ext M S H M' S' H' → Rp G M' S'.length d v → Q v H'
/-- the given arguments and as many keywords -/
def kwG {α : Type} (k : Nat) (us ws : List α) : List α := if ws.length = k then us ++ ws else []
section
variable {X : Cx} {G : Gx} {k : Nat} {f : Addr} {fd : FuncData} {ps : List Str} {cf : List D → Store → Option (D × Store)} {x : Str} {p pos : Pos} {e : Expr} {es : List Expr} {fs : Env → Store → Option (List D × Store)}
theorem s_call (F : FnG X.prog X.w X.K X.mg X.base k f fd ps (spF G ps.length cf)) (hr : Room k X.A) (hgd : X.A.guards = some []) (hg : Gl X x) (hm : X.mg x = some (.ref f)) (hk : PySem.W.keepIn X.K (.ref f) = true) (hb : Binds X.K fd ps []) (hl : ∀ ds S r, cf ds S = some r → ds.length = ps.length)
    (ha : PA X (e :: es) (tAf G fs)) (hd : (x == ("__debug__" : Str)) = false) (hs : notStar e = true) (hss : es.all notStar = true) : PE X (.Call (.Name x p) (e :: es) [] pos) (tEf G fun ρ S => (fs ρ S).bind fun x => cf x.1 x.2) := by
  refine pe_weak (g_call F hr hgd hg hm hk hb pass0 ha hd (star_cons hs) (plain_any hss)) fun σ H Q h => ?_
  obtain ⟨M, S, ρ, d, S', rl, en, h, k⟩ := h
  obtain ⟨x, hx, h⟩ := Option.bind_eq_some_iff.mp h
  refine tAf.mk rl en hx fun vs M1 H1 r1 x1 p1 => ?_
  show spF G ps.length cf (vs ++ []) H1 Q E0
  rw [List.append_nil]
  exact ⟨M1, x.2, x.1, d, S', by rw [← p1.length]; exact hl _ _ _ h, r1, p1, h, fun v M2 H2 r2 x2 p2 => k v M2 H2 r2 (x1.trans x2) p2⟩
theorem s_call0 (F : FnG X.prog X.w X.K X.mg X.base k f fd ps (spF G ps.length cf)) (hr : Room k X.A) (hgd : X.A.guards = some []) (hg : Gl X x) (hm : X.mg x = some (.ref f)) (hk : PySem.W.keepIn X.K (.ref f) = true) (hb : Binds X.K fd ps []) (hl : ∀ ds S r, cf ds S = some r → ds.length = ps.length)
    (hd : (x == ("__debug__" : Str)) = false) : PE X (.Call (.Name x p) [] [] pos) (tEf G fun _ S => cf [] S) := by
  refine pe_weak (g_call0 F hr hgd hg hm hk hb pass0 hd) fun σ H Q h => ?_
  obtain ⟨M, S, ρ, d, S', rl, en, h, k⟩ := h
  show spF G ps.length cf ([] ++ []) H Q E0
  exact ⟨M, S, [], d, S', hl _ _ _ h, rl, RpL.nil, h, k⟩
/-- the keywords' values -/
def kwNames (kws : List Keyword) : List (Option Str) := kws.map (·.arg)
theorem k_nil : PK X [] (tAf G fun _ S => some ([], S)) := ⟨fun pos pins s σ H Q I h => by
  obtain ⟨M, S, ρ, d, S', rl, e, h, k⟩ := h
  cases h
  exact pk_nil.run pos pins s σ H Q I (k [] M H rl .refl RpL.nil)⟩
theorem k_cons {nm : Option Str} {kpos : Pos} {kws : List Keyword} {fe : Env → Store → Option (D × Store)} (he : PE X e (tEf G fe)) (hr : PK X kws (tAf G fs)) : PK X (⟨nm, e, kpos⟩ :: kws) (tAf G fun ρ S => (fe ρ S).bind fun x => (fs ρ x.2).map fun y => (x.1 :: y.1, y.2)) := ⟨fun pos pins s σ H Q I h => by
  refine (pk_cons (nm := nm) (kpos := kpos) he hr).run pos pins s σ H Q I ?_
  obtain ⟨M, S, ρ, d, S', rl, en, h, k⟩ := h
  obtain ⟨x, hx, h⟩ := Option.bind_eq_some_iff.mp h
  obtain ⟨y, hy, h⟩ := Option.map_eq_some_iff.mp h
  cases h
  refine tEf.mk rl en hx fun v M1 H1 r1 x1 p1 => tAf.mk r1 (en.ext x1) hy fun vs M2 H2 r2 x2 p2 => ?_
  exact k _ M2 H2 r2 (x1.trans x2) (RpL.cons (p1.up x2.up) p2)⟩
theorem kwG_eq {α : Type} {k : Nat} {us ws : List α} (h : ws.length = k) : kwG k us ws = us ++ ws := if_pos h
theorem s_callK {ks : List Str} {kws : List Keyword} {fk : Env → Store → Option (List D × Store)} (F : FnG X.prog X.w X.K X.mg X.base k f fd ps (spF G ps.length cf)) (hr : Room k X.A) (hgd : X.A.guards = some []) (hg : Gl X x) (hm : X.mg x = some (.ref f)) (hk : PySem.W.keepIn X.K (.ref f) = true)
    (hb : KBinds X.K fd ps ks (kwG ks.length) (kwG ks.length)) (hlk : ∀ ρ S r, fk ρ S = some r → r.1.length = ks.length) (hl : ∀ ds S r, cf ds S = some r → ds.length = ps.length)
    (ha : PA X (e :: es) (tAf G fs)) (hkw : PK X kws (tAf G fk)) (hall : (backToKw pos (keywordEach kws X.env)).all (·.1.isSome) = true) (hks : (backToKw pos (keywordEach kws X.env)).filterMap (·.1) = ks)
    (hnone : (backToKw pos (keywordEach kws X.env)).any (·.1.isNone) = false)
    (hd : (x == ("__debug__" : Str)) = false) (hs : notStar e = true) (hss : es.all notStar = true) : PE X (.Call (.Name x p) (e :: es) kws pos) (tEf G fun ρ S => (fs ρ S).bind fun x => (fk ρ x.2).bind fun y => cf (x.1 ++ y.1) y.2) := by
  refine pe_weak (g_callK F hr hgd hg hm hk hb pass0 ha hkw hall hks hd (star_cons hs) (by rw [hnone, plain_any (by rw [List.all_cons, hs, hss] <;> rfl)] <;> rfl)) fun σ H Q h => ?_
  obtain ⟨M, S, ρ, d, S', rl, en, h, k⟩ := h
  obtain ⟨x, hx, h⟩ := Option.bind_eq_some_iff.mp h
  obtain ⟨y, hy, h⟩ := Option.bind_eq_some_iff.mp h
  refine tAf.mk rl en hx fun vs M1 H1 r1 x1 p1 => tAf.mk r1 (en.ext x1) hy fun zs M2 H2 r2 x2 p2 => ?_
  have pp := (p1.up x2.up).append p2
  rw [kwG_eq (by rw [← p2.length]; exact hlk _ _ _ hy)]
  exact ⟨M2, y.2, x.1 ++ y.1, d, S', by rw [← pp.length]; exact hl _ _ _ h, r2, pp, h, fun v M3 H3 r3 x3 p3 => k v M3 H3 r3 ((x1.trans x2).trans x3) p3⟩
end

/-! ### what is walked -/
/-- the iterator yields the items, as long as the list stands -/
def ItOk (G : Gx) (J : L2.It) (items : List D) (src : Option (Nat × List D)) (M0 : Mp) (n0 : Nat) : Prop :=
  ∀ (M : Mp) (S : Store) (H : Hp), Rel G M S H → Up M0 M n0 S.length → keptP src S → ∀ i, (i < items.length → J.go i H) ∧ (items.length ≤ i → J.stop i H) ∧
    ∀ x H' d, items[i]? = some d → J.yld i H x H' → ∃ M', Rel G M' S H' ∧ Ext M S H M' S H' ∧ Rp G M' S.length d x
structure PIf (X : Cx) (G : Gx) (tg iter : Expr) (f : Env → Store → Option ((List D × Option (Nat × List D)) × Store)) : Prop where
  ex : ∃ wi, PI X tg iter wi ∧ ∀ σ H R (M : Mp) (S : Store) (ρ : Env) w S', Rel G M S H → EnvR G M S H σ ρ → f ρ S = some (w, S') →
    (∀ J M' H', Rel G M' S' H' → Ext M S H M' S' H' → ItOk G J w.1 w.2 M' S'.length → keptP w.2 S' → R J H') → wi σ H R
section
variable {X : Cx} {G : Gx} {tg : Expr}
theorem pi_or {iter : Expr} {w1 w2 : TI} (h1 : PI X tg iter w1) (h2 : PI X tg iter w2) : PI X tg iter (fun σ H R => w1 σ H R ∨ w2 σ H R) := ⟨fun pins s σ H R I h => by
  rcases h with h | h
  · exact h1.run pins s σ H R I h
  · exact h2.run pins s σ H R I h⟩
theorem itl_ok {a : Addr} {vs : List V} {l : List D} {M : Mp} {n : Nat} (hf : M.F a = some (.lst vs)) (t : RpL G M n l vs) : ItOk G (Itl G.K a) l none M n := by
  intro M2 S2 H2 r u _ i
  have h2 : SqL G.K H2 a vs := SqL.of (r.sub _ _ (u.F _ _ hf))
  have t2 := t.up u
  have hl := t2.length
  refine ⟨fun hi => ⟨vs, vs[i], h2, List.getElem?_eq_getElem (by omega)⟩, fun hi => ⟨vs, h2, by omega⟩, fun x H' d hd hy => ?_⟩
  obtain ⟨e, hy⟩ := hy
  subst e
  obtain ⟨v, h3, h4⟩ := t2.get hd
  have h5 := hy vs h2
  rw [h3] at h5
  cases h5
  exact ⟨M2, r, .refl, h4⟩
theorem itt_ok {a : Addr} {vs : List V} {l : List D} {M : Mp} {n : Nat} (hf : SqT G.K M.F a vs) (t : RpL G M n l vs) : ItOk G (Itt G.K a) l none M n := by
  intro M2 S2 H2 r u _ i
  have h2 : SqT G.K H2 a vs := sqT_up r.sub (sqT_up u.F hf)
  have t2 := t.up u
  have hl := t2.length
  refine ⟨fun hi => ⟨vs, vs[i], h2, List.getElem?_eq_getElem (by omega)⟩, fun hi => ⟨vs, h2, by omega⟩, fun x H' d hd hy => ?_⟩
  obtain ⟨e, hy⟩ := hy
  subst e
  obtain ⟨v, h3, h4⟩ := t2.get hd
  have h5 := hy vs h2
  rw [h3] at h5
  cases h5
  exact ⟨M2, r, .refl, h4⟩
/-- a list of the store, which stays as it is -/
theorem itr_ok {a : Nat} {l : List D} {M : Mp} {n : Nat} (ha : a < n) : ItOk G (Itl G.K (M.m a)) l (some (a, l)) M n := by
  intro M2 S2 H2 r u hk i
  have hk' : S2[a]? = some (.lst l) := hk
  obtain ⟨⟨vs, e2, t2⟩, _⟩ := r.obj a _ hk'
  rw [u.m a ha] at e2
  have h2 : SqL G.K H2 (M.m a) vs := SqL.of e2
  have hl := t2.length
  refine ⟨fun hi => ⟨vs, vs[i], h2, List.getElem?_eq_getElem (by omega)⟩, fun hi => ⟨vs, h2, by omega⟩, fun x H' d hd hy => ?_⟩
  obtain ⟨e, hy⟩ := hy
  subst e
  obtain ⟨v, h3, h4⟩ := t2.get hd
  have h5 := hy vs h2
  rw [h3] at h5
  cases h5
  exact ⟨M2, r, .refl, h4⟩
theorem i_e {e : Expr} {fe : Env → Store → Option (D × Store)} (hK : X.K = G.K) (he : PE X e (tEf G fe)) : PIf X G tg e (fun ρ S => (fe ρ S).bind fun x => (itemsD x.2 x.1).map fun w => (w, x.2)) := by
  refine ⟨_, pi_or (pi_list he) (pi_tup he), fun σ H R M S ρ w S' rl en h k => ?_⟩
  obtain ⟨⟨x1, x2⟩, hx, h⟩ := Option.bind_eq_some_iff.mp h
  obtain ⟨w', hw, h⟩ := Option.map_eq_some_iff.mp h
  cases h
  cases x1 with
  | tup l =>
    have hw := Option.some.inj (show some (l, none) = some w from hw)
    subst hw
    refine .inr (tEf.mk rl en hx fun v M1 H1 r1 q1 p1 => ?_)
    obtain ⟨p, vs, e1, s, t⟩ := p1
    rw [hK]
    exact ⟨p, e1, ⟨vs, sqT_up r1.sub s.sq⟩, k _ M1 H1 r1 q1 (itt_ok s.sq t) True.intro⟩
  | lst l =>
    have hw := Option.some.inj (show some (l, none) = some w from hw)
    subst hw
    refine .inl (tEf.mk rl en hx fun v M1 H1 r1 q1 p1 => ?_)
    obtain ⟨p, vs, e1, s, t⟩ := p1
    rw [hK]
    exact ⟨p, e1, ⟨vs, SqL.of (r1.sub _ _ s)⟩, k _ M1 H1 r1 q1 (itl_ok s t) True.intro⟩
  | ref a =>
    have hw : (match x2[a]? with | some (.lst l) => some (l, some (a, l)) | _ => none) = some w := hw
    split at hw
    · rename_i l hl
      cases hw
      refine .inl (tEf.mk rl en hx fun v M1 H1 r1 q1 p1 => ?_)
      obtain ⟨ha, e1⟩ := p1
      obtain ⟨⟨vs, e2, t2⟩, _⟩ := r1.obj a _ hl
      rw [hK]
      exact ⟨M1.m a, e1, ⟨vs, SqL.of e2⟩, k _ M1 H1 r1 q1 (itr_ok ha) hl⟩
    · cases hw
  | _ => exact nn hw
theorem range_ok {lo hi : Int} {M : Mp} {n : Nat} : ItOk G (Itr lo (hi - lo).toNat) (rangeL lo hi) none M n := by
  intro M2 S2 H2 r u _ i
  have hl : (rangeL lo hi).length = (hi - lo).toNat := by unfold rangeL; rw [List.length_map, List.length_range]
  refine ⟨fun h => by rw [hl] at h; exact h, fun h => by rw [hl] at h; exact h, fun x H' d hd hy => ?_⟩
  obtain ⟨e, hy⟩ := hy
  subst e
  refine ⟨M2, r, .refl, ?_⟩
  unfold rangeL at hd
  rw [List.getElem?_map] at hd
  obtain ⟨j, hj, e⟩ := Option.map_eq_some_iff.mp hd
  have hj2 : j = i := by
    obtain ⟨h1, h2⟩ := List.getElem?_eq_some_iff.mp hj
    rw [List.getElem_range] at h2
    exact h2.symm
  rw [← e, hj2]
  exact hy
theorem rgOk_of {a b : Int} (h : rgOk a b = true) : -(2 ^ 62) ≤ a ∧ a < 2 ^ 62 ∧ -(2 ^ 62) ≤ b ∧ b < 2 ^ 62 := by
  unfold rgOk at h
  simp only [Bool.and_eq_true, decide_eq_true_eq] at h
  exact ⟨h.1.1.1, h.1.1.2, h.1.2, h.2⟩
theorem i_range1 {a : Expr} {fa : Env → Store → Option (D × Store)} {p pos : Pos} (hg : Gl X "range") (hm : X.mg "range" = none) (ha : PE X a (tEf G fa)) (hs : notStar a = true) :
    PIf X G tg (.Call (.Name "range" p) [a] [] pos) (fun ρ S => (fa ρ S).bind fun x => match x with | (.int n, S1) => if rgOk 0 n then some ((rangeL 0 n, none), S1) else none | _ => none) := by
  refine ⟨_, pi_range1 hg hm (pa_cons ha pa_nil (star_cons hs)) (star_cons hs), fun σ H R M S ρ w S' rl en h k => ?_⟩
  obtain ⟨⟨x1, x2⟩, hx, h2⟩ := Option.bind_eq_some_iff.mp h
  clear h
  have h := h2
  clear h2
  cases x1 <;> first | exact nn h | skip
  rename_i n
  have h : (if rgOk 0 n then some ((rangeL 0 n, none), x2) else none) = some (w, S') := h
  split at h
  · rename_i c
    cases h
    obtain ⟨_, _, c3, c4⟩ := rgOk_of c
    refine tEf.mk rl en hx fun v M1 H1 r1 q1 p1 => ⟨n, by rw [show v = V.int n from p1], c3, c4, ?_⟩
    have z := k (Itr 0 (n - 0).toNat) M1 H1 r1 q1 range_ok True.intro
    rw [Int.sub_zero] at z
    exact z
  · cases h
theorem i_range2 {a b : Expr} {fa fb : Env → Store → Option (D × Store)} {p pos : Pos} (hg : Gl X "range") (hm : X.mg "range" = none) (ha : PE X a (tEf G fa)) (hb : PE X b (tEf G fb)) (hs : notStar a = true) (hs2 : notStar b = true) :
    PIf X G tg (.Call (.Name "range" p) [a, b] [] pos) (fun ρ S => (fa ρ S).bind fun x => (fb ρ x.2).bind fun y => match x.1, y.1 with | .int i, .int j => if rgOk i j then some ((rangeL i j, none), y.2) else none | _, _ => none) := by
  refine ⟨_, pi_range2 hg hm (pa_cons ha (pa_cons hb pa_nil (star_cons hs2)) (star_cons hs)) (by rw [star_cons hs, star_cons hs2] <;> rfl) (star_cons hs2), fun σ H R M S ρ w S' rl en h k => ?_⟩
  obtain ⟨⟨x1, x2⟩, hx, h2⟩ := Option.bind_eq_some_iff.mp h
  obtain ⟨⟨y1, y2⟩, hy, h3⟩ := Option.bind_eq_some_iff.mp h2
  clear h h2
  have h := h3
  clear h3
  cases x1 <;> cases y1 <;> first | exact nn h | skip
  rename_i i j
  have h : (if rgOk i j then some ((rangeL i j, none), y2) else none) = some (w, S') := h
  split at h
  · rename_i c
    cases h
    refine tEf.mk rl en hx fun v M1 H1 r1 q1 p1 => tEf.mk r1 (en.ext q1) hy fun u M2 H2 r2 q2 p2 => ⟨i, j, by rw [show v = V.int i from p1, show u = V.int j from p2], rgOk_of c, ?_⟩
    exact k _ M2 H2 r2 (q1.trans q2) range_ok True.intro
  · cases h
theorem rev_ok {a : Addr} {vs : List V} {l : List D} {M : Mp} {n : Nat} (hf : M.F a = some (.lst vs)) (t : RpL G M n l vs) : ItOk G (Itv G.K a vs.length) l.reverse none M n := by
  intro M2 S2 H2 r u _ i
  have h2 : SqL G.K H2 a vs := SqL.of (r.sub _ _ (u.F _ _ hf))
  have t2 := t.up u
  have hl := t2.length
  refine ⟨fun hi => ?_, fun hi => by rw [List.length_reverse] at hi; show vs.length ≤ i; omega, fun x H' d hd hy => ?_⟩
  · rw [List.length_reverse] at hi
    exact ⟨by omega, vs, vs[vs.length - 1 - i]'(by omega), h2, List.getElem?_eq_getElem (by omega)⟩
  · obtain ⟨e, hy⟩ := hy
    subst e
    have hi : i < l.length := by
      have := (List.getElem?_eq_some_iff.mp hd).1
      rwa [List.length_reverse] at this
    rw [List.getElem?_reverse hi] at hd
    obtain ⟨v, h3, h4⟩ := t2.get hd
    have h5 := hy vs h2
    rw [← hl, h3] at h5
    cases h5
    exact ⟨M2, r, .refl, h4⟩
theorem revT_ok {a : Addr} {vs : List V} {l : List D} {M : Mp} {n : Nat} (hf : SqT G.K M.F a vs) (t : RpL G M n l vs) : ItOk G (RT.ItvT G.K a vs.length) l.reverse none M n := by
  intro M2 S2 H2 r u _ i
  have h2 : SqT G.K H2 a vs := sqT_up r.sub (sqT_up u.F hf)
  have t2 := t.up u
  have hl := t2.length
  refine ⟨fun hi => ?_, fun hi => by rw [List.length_reverse] at hi; show vs.length ≤ i; omega, fun x H' d hd hy => ?_⟩
  · rw [List.length_reverse] at hi
    exact ⟨by omega, vs, vs[vs.length - 1 - i]'(by omega), h2, List.getElem?_eq_getElem (by omega)⟩
  · obtain ⟨e, hy⟩ := hy
    subst e
    have hi : i < l.length := by
      have := (List.getElem?_eq_some_iff.mp hd).1
      rwa [List.length_reverse] at this
    rw [List.getElem?_reverse hi] at hd
    obtain ⟨v, h3, h4⟩ := t2.get hd
    have h5 := hy vs h2
    rw [← hl, h3] at h5
    cases h5
    exact ⟨M2, r, .refl, h4⟩
theorem i_rev {a : Expr} {fa : Env → Store → Option (D × Store)} {p pos : Pos} (hK : X.K = G.K) (hg : Gl X "reversed") (hm : X.mg "reversed" = none) (ha : PE X a (tEf G fa)) (hs : notStar a = true) :
    PIf X G tg (.Call (.Name "reversed" p) [a] [] pos) (fun ρ S => (fa ρ S).bind fun x => match x.1 with | .lst l => some ((l.reverse, none), x.2) | .tup l => some ((l.reverse, none), x.2) | _ => none) := by
  refine ⟨_, RT.pi_revA hg hm ha (star_cons hs), fun σ H R M S ρ w S' rl en h k => ?_⟩
  obtain ⟨⟨x1, x2⟩, hx, h2⟩ := Option.bind_eq_some_iff.mp h
  clear h
  have h := h2
  clear h2
  cases x1 <;> first | exact nn h | skip
  · rename_i l
    have h := Option.some.inj (show some ((l.reverse, none), x2) = some (w, S') from h)
    cases h
    refine tEf.mk rl en hx fun v M1 H1 r1 q1 p1 => ?_
    obtain ⟨p, vs, e1, s, t⟩ := p1
    rw [hK]
    exact ⟨p, vs, e1, .inr ⟨sqT_up r1.sub s.sq, k _ M1 H1 r1 q1 (revT_ok s.sq t) True.intro⟩⟩
  · rename_i l
    have h := Option.some.inj (show some ((l.reverse, none), x2) = some (w, S') from h)
    cases h
    refine tEf.mk rl en hx fun v M1 H1 r1 q1 p1 => ?_
    obtain ⟨p, vs, e1, s, t⟩ := p1
    rw [hK]
    exact ⟨p, vs, e1, .inl ⟨SqL.of (r1.sub _ _ s), k _ M1 H1 r1 q1 (rev_ok s t) True.intro⟩⟩
theorem zip_get : ∀ {l l' : List D} {i : Nat} {d : D}, (zipL l l')[i]? = some d → ∃ x y, l[i]? = some x ∧ l'[i]? = some y ∧ d = .tup [x, y]
  | [], _, _, _, h => by cases h
  | _ :: _, [], _, _, h => by cases h
  | x :: xs, y :: ys, 0, d, h => ⟨x, y, rfl, rfl, (Option.some.inj h).symm⟩
  | x :: xs, y :: ys, i + 1, d, h => zip_get (l := xs) (l' := ys) (i := i) (by simpa [zipL] using h)
theorem zip_len : ∀ {l l' : List D}, l.length = l'.length → (zipL l l').length = l.length
  | [], _, _ => by simp [zipL]
  | _ :: _, [], h => by simp at h
  | x :: xs, y :: ys, h => by
    show (zipL xs ys).length + 1 = xs.length + 1
    rw [zip_len (by simpa using h)]
theorem pair_new {M : Mp} {S : Store} {H : Hp} {T : Addr} {x y : D} {v w : V} (r : Rel G M S H) (hT : H T = none) (px : Rp G M S.length x v) (py : Rp G M S.length y w) :
    ∃ M', Rel G M' S (upd H T (.tup [v, w])) ∧ Ext M S H M' S (upd H T (.tup [v, w])) ∧ Rp G M' S.length (.tup [x, y]) (.ref T) := by
  obtain ⟨r2, x2⟩ := rel_fin (o := .tup [v, w]) r hT
  exact ⟨_, r2, x2, T, [v, w], rfl, .inl upd_same, RpL.cons (px.up x2.up) (RpL.cons (py.up x2.up) RpL.nil)⟩
theorem zip_ok {a b : Addr} {vs ws : List V} {l l' : List D} {M : Mp} {n : Nat} (hf : M.F a = some (.lst vs)) (hf' : M.F b = some (.lst ws)) (t : RpL G M n l vs) (t' : RpL G M n l' ws) (hll : l.length = l'.length) : ItOk G (Itz G.K a b) (zipL l l') none M n := by
  intro M2 S2 H2 r u _ i
  have h1 : SqL G.K H2 a vs := SqL.of (r.sub _ _ (u.F _ _ hf))
  have h2 : SqL G.K H2 b ws := SqL.of (r.sub _ _ (u.F _ _ hf'))
  have t1 := t.up u
  have t2 := t'.up u
  have hl1 := t1.length
  have hl2 := t2.length
  have hz := zip_len hll
  refine ⟨fun hi => ⟨vs, ws, vs[i]'(by omega), ws[i]'(by omega), h1, h2, List.getElem?_eq_getElem (by omega), List.getElem?_eq_getElem (by omega)⟩, fun hi => ⟨vs, ws, h1, h2, .inl (by omega)⟩, fun x H' d hd hy => ?_⟩
  obtain ⟨T, v, w, ev, hT, eH, g1, g2⟩ := hy
  obtain ⟨x', y', e1, e2, e3⟩ := zip_get hd
  obtain ⟨v', a1, a2⟩ := t1.get e1
  obtain ⟨w', b1, b2⟩ := t2.get e2
  have c1 := g1 vs h1
  have c2 := g2 ws h2
  rw [a1] at c1
  rw [b1] at c2
  cases c1
  cases c2
  rw [eH, ev, e3]
  exact pair_new r hT a2 b2
theorem zipT_ok {a b : Addr} {vs ws : List V} {l l' : List D} {M : Mp} {n : Nat} (hf : SqT G.K M.F a vs) (hf' : SqT G.K M.F b ws) (t : RpL G M n l vs) (t' : RpL G M n l' ws) (hll : l.length = l'.length) : ItOk G (RZ.ItzT G.K a b) (zipL l l') none M n := by
  intro M2 S2 H2 r u _ i
  have h1 : SqT G.K H2 a vs := sqT_up r.sub (sqT_up u.F hf)
  have h2 : SqT G.K H2 b ws := sqT_up r.sub (sqT_up u.F hf')
  have t1 := t.up u
  have t2 := t'.up u
  have hl1 := t1.length
  have hl2 := t2.length
  have hz := zip_len hll
  refine ⟨fun hi => ⟨vs, ws, vs[i]'(by omega), ws[i]'(by omega), h1, h2, List.getElem?_eq_getElem (by omega), List.getElem?_eq_getElem (by omega)⟩, fun hi => ⟨vs, ws, h1, h2, .inl (by omega)⟩, fun x H' d hd hy => ?_⟩
  obtain ⟨T, v, w, ev, hT, eH, g1, g2⟩ := hy
  obtain ⟨x', y', e1, e2, e3⟩ := zip_get hd
  obtain ⟨v', a1, a2⟩ := t1.get e1
  obtain ⟨w', b1, b2⟩ := t2.get e2
  have c1 := g1 vs h1
  have c2 := g2 ws h2
  rw [a1] at c1
  rw [b1] at c2
  cases c1
  cases c2
  rw [eH, ev, e3]
  exact pair_new r hT a2 b2
theorem i_zip {elts : List Expr} {kk : Nat} {tpos : Pos} {a b : Expr} {fa fb : Env → Store → Option (D × Store)} {p pos : Pos} (hK : X.K = G.K) (hg : Gl X "zip") (hm : X.mg "zip" = none) (ha : PE X a (tEf G fa)) (hb : PE X b (tEf G fb)) (hs : notStar a = true) (hs2 : notStar b = true) :
    PIf X G (.Tuple elts kk tpos) (.Call (.Name "zip" p) [a, b] [] pos) (fun ρ S => (fa ρ S).bind fun x => (fb ρ x.2).bind fun y => match x.1, y.1 with
      | .lst l, .lst l' => if l.length = l'.length then some ((zipL l l', none), y.2) else none
      | .tup l, .tup l' => if l.length = l'.length then some ((zipL l l', none), y.2) else none
      | _, _ => none) := by
  refine ⟨_, RZ.pi_zipA hg hm (pa_cons ha (pa_cons hb pa_nil (star_cons hs2)) (star_cons hs)) (star_cons hs) (plain_any (by rw [List.all_cons, hs2] <;> rfl)), fun σ H R M S ρ w S' rl en h k => ?_⟩
  obtain ⟨⟨x1, x2⟩, hx, h2⟩ := Option.bind_eq_some_iff.mp h
  obtain ⟨⟨y1, y2⟩, hy, h3⟩ := Option.bind_eq_some_iff.mp h2
  clear h h2
  have h := h3
  clear h3
  cases x1 <;> cases y1 <;> first | exact nn h | skip
  · rename_i l l'
    have h : (if l.length = l'.length then some ((zipL l l', none), y2) else none) = some (w, S') := h
    split at h
    · rename_i c
      cases h
      refine tEf.mk rl en hx fun v M1 H1 r1 q1 p1 => tEf.mk r1 (en.ext q1) hy fun u M2 H2 r2 q2 p2 => ?_
      obtain ⟨p, vs, e1, s1, t1⟩ := p1.up q2.up
      obtain ⟨q, ws, e2, s2, t2⟩ := p2
      rw [hK]
      exact ⟨p, q, vs, ws, by rw [e1, e2], .inr ⟨sqT_up r2.sub s1.sq, sqT_up r2.sub s2.sq, k _ M2 H2 r2 (q1.trans q2) (zipT_ok s1.sq s2.sq t1 t2 c) True.intro⟩⟩
    · cases h
  · rename_i l l'
    have h : (if l.length = l'.length then some ((zipL l l', none), y2) else none) = some (w, S') := h
    split at h
    · rename_i c
      cases h
      refine tEf.mk rl en hx fun v M1 H1 r1 q1 p1 => tEf.mk r1 (en.ext q1) hy fun u M2 H2 r2 q2 p2 => ?_
      obtain ⟨p, vs, e1, s1, t1⟩ := p1.up q2.up
      obtain ⟨q, ws, e2, s2, t2⟩ := p2
      rw [hK]
      exact ⟨p, q, vs, ws, by rw [e1, e2], .inl ⟨SqL.of (r2.sub _ _ s1), SqL.of (r2.sub _ _ s2), k _ M2 H2 r2 (q1.trans q2) (zip_ok s1 s2 t1 t2 c) True.intro⟩⟩
    · cases h
end

/-! ### targets -/
def gNames : List Nat → TGs
  | [] => gNil
  | i :: is => gCons (gName i) (gNames is)
/-- the target of a loop: a name, or several in a tuple -/
def gOf (K : PySem.W.Frag) (one : Bool) (is : List Nat) : TG := match one, is with
  | true, [i] => gName i
  | _, is => gTup K is.length (gNames is)
section
variable {G : Gx} {M : Mp} {S : Store} {H : Hp}
theorem putVs_read : ∀ {is : List Nat} {ds : List D} {vs : List V} {σ : L2.St} {ρ ρ' : Env} {Q : L2.St → Hp → Prop}, EnvR G M S H σ ρ → RpL G M S.length ds vs → (∀ i ∈ is, i < ρ.length) → putVs ρ is ds = some ρ' →
    (∀ σ', EnvR G M S H σ' ρ' → σ'.length = σ.length → (∀ j, j ∉ is → σ'[j]? = σ[j]?) → Q σ' H) → gNames is vs σ H Q
  | [], [], vs, σ, ρ, ρ', Q, e, p, hi, h, k => by
    cases h
    exact ⟨p, k σ e rfl fun _ _ => rfl⟩
  | [], _ :: _, _, _, _, _, _, _, _, _, h, _ => nn h
  | _ :: _, [], _, _, _, _, _, _, _, _, h, _ => nn h
  | i :: is, d :: ds, vs, σ, ρ, ρ', Q, e, p, hi, h, k => by
    obtain ⟨v, r, ev, pv, pr⟩ := p
    have h : putVs (putV ρ i d) is ds = some ρ' := h
    have hl : i < ρ.length := hi i List.mem_cons_self
    have e2 := e.putV hl pv
    refine ⟨v, r, ev, ?_⟩
    show gNames is r (σ.set i (some v)) H Q
    refine putVs_read e2 pr (fun j hj => by rw [show (putV ρ i d).length = ρ.length from List.length_set]; exact hi j (List.mem_cons_of_mem _ hj)) h fun σ' e' hl' hs => k σ' e' (by rw [hl', List.length_set]) fun j hj => ?_
    rw [hs j fun z => hj (List.mem_cons_of_mem _ z), List.getElem?_set_ne fun z => hj (by rw [z]; exact List.mem_cons_self)]
theorem putVs_len : ∀ {is : List Nat} {ds : List D} {ρ ρ' : Env}, putVs ρ is ds = some ρ' → ds.length = is.length
  | [], [], _, _, _ => rfl
  | [], _ :: _, _, _, h => nn h
  | _ :: _, [], _, _, h => nn h
  | i :: is, d :: ds, ρ, ρ', h => congrArg (· + 1) (putVs_len (show putVs (putV ρ i d) is ds = some ρ' from h))
theorem putT_read {one : Bool} {is : List Nat} {d : D} {x : V} {σ : L2.St} {ρ ρ' : Env} {Q : L2.St → Hp → Prop} (r : Rel G M S H) (e : EnvR G M S H σ ρ) (p : Rp G M S.length d x) (hi : ∀ i ∈ is, i < ρ.length) (h : putT ρ one is d = some ρ')
    (k : ∀ σ', EnvR G M S H σ' ρ' → σ'.length = σ.length → (∀ j, j ∉ is → σ'[j]? = σ[j]?) → Q σ' H) : gOf G.K one is x σ H Q := by
  cases one with
  | true =>
    match is, h with
    | [i], h =>
      have h := Option.some.inj (show some (putV ρ i d) = some ρ' from h)
      subst h
      refine k _ (e.putV (hi i (by simp)) p) List.length_set fun j hj => ?_
      rw [List.getElem?_set_ne fun z => hj (by rw [z]; simp)]
    | [], h => exact nn h
    | _ :: _ :: _, h => exact nn h
  | false =>
    cases d <;> first | exact nn h | skip
    rename_i ds
    obtain ⟨q, vs, e1, s, t⟩ := p
    have h : putVs ρ is ds = some ρ' := h
    have hlen : vs.length = is.length := by
      rw [← t.length]
      exact putVs_len h
    refine ⟨q, vs, e1, sqT_up r.sub s.sq, hlen, putVs_read e t hi h k⟩
end
/-- how a target is written -/
def tgOk (N : List Str) (nm : Str → Bool) : Bool → List Nat → Expr → Bool
  | true, [i], .Name x _ => decide (N[i]? = some x) && nm x
  | false, is, .Tuple es _ _ => decide (es.length = is.length) && (es.zip is).all fun p => match p.1 with | .Name x _ => decide (N[p.2]? = some x) && nm x | _ => false
  | _, _, _ => false
theorem pgs_of {X : Cx} {nm : Str → Bool} (hN : X.N.Nodup) (hn : ∀ x, nm x = true → Loc X.env.scope x ∧ (X.fn x = true ∨ X.env.scope.names.lookup x = some .local)) : ∀ {es : List Expr} {is : List Nat}, es.length = is.length →
    ((es.zip is).all fun p => match p.1 with | .Name x _ => decide (X.N[p.2]? = some x) && nm x | _ => false) = true → PGs X es (gNames is) ∧ (assignEach es X.env).length = is.length ∧ (assignEach es X.env).findIdx? (·.1) = none
  | [], [], _, _ => ⟨pgs_nil, rfl, rfl⟩
  | [], _ :: _, h, _ => by simp at h
  | _ :: _, [], h, _ => by simp at h
  | e :: es, i :: is, hl, h => by
    rw [List.zip_cons_cons, List.all_cons, Bool.and_eq_true] at h
    obtain ⟨h1, h2⟩ := h
    obtain ⟨q1, q2, q3⟩ := pgs_of hN hn (es := es) (is := is) (by simpa using hl) h2
    cases e with
    | Name x pos =>
      have h1 : (decide (X.N[i]? = some x) && nm x) = true := h1
      rw [Bool.and_eq_true] at h1
      obtain ⟨a1, a2⟩ := hn x h1.2
      refine ⟨pgs_cons (pg_name hN (of_decide_eq_true h1.1) a1 a2) q1 rfl, ?_, ?_⟩
      · show (assignEach es X.env).length + 1 = is.length + 1
        rw [q2]
      · show ((false, assign (.Name x pos) X.env) :: assignEach es X.env).findIdx? (·.1) = none
        rw [List.findIdx?_cons, q3] <;> rfl
    | _ => exact nb h1
/-- several names, of a list -/
theorem pg_ofL {X : Cx} {nm : Str → Bool} {is : List Nat} {tg : Expr} (hc : X.calm = true) (hN : X.N.Nodup) (hn : ∀ x, nm x = true → Loc X.env.scope x ∧ (X.fn x = true ∨ X.env.scope.names.lookup x = some .local)) (h : tgOk X.N nm false is tg = true) :
    PG X tg (gLst X.K is.length (gNames is)) := by
  cases tg <;> first | exact nb h | skip
  rename_i es kk pos
  have h : (decide (es.length = is.length) && (es.zip is).all fun p => match p.1 with | .Name x _ => decide (X.N[p.2]? = some x) && nm x | _ => false) = true := h
  rw [Bool.and_eq_true] at h
  obtain ⟨q1, q2, q3⟩ := pgs_of hN hn (of_decide_eq_true h.1) h.2
  exact pg_lst hc q1 q2 q3
theorem pg_of {X : Cx} {nm : Str → Bool} {one : Bool} {is : List Nat} {tg : Expr} (hc : X.calm = true) (hN : X.N.Nodup) (hn : ∀ x, nm x = true → Loc X.env.scope x ∧ (X.fn x = true ∨ X.env.scope.names.lookup x = some .local)) (h : tgOk X.N nm one is tg = true) :
    PG X tg (gOf X.K one is) ∧ ∀ i ∈ is, i < X.N.length := by
  cases one with
  | true =>
    match is, h with
    | [i], h =>
      cases tg with
      | Name x pos =>
        have h : (decide (X.N[i]? = some x) && nm x) = true := h
        rw [Bool.and_eq_true] at h
        obtain ⟨a1, a2⟩ := hn x h.2
        have hi := of_decide_eq_true h.1
        exact ⟨pg_name hN hi a1 a2, fun j hj => by rw [List.mem_singleton.mp hj]; exact (List.getElem?_eq_some_iff.mp hi).1⟩
      | _ => exact nb h
    | [], h => cases tg <;> exact nb h
    | _ :: _ :: _, h => cases tg <;> exact nb h
  | false =>
    cases tg <;> first | exact nb h | skip
    rename_i es kk pos
    have h : (decide (es.length = is.length) && (es.zip is).all fun p => match p.1 with | .Name x _ => decide (X.N[p.2]? = some x) && nm x | _ => false) = true := h
    rw [Bool.and_eq_true] at h
    have hl := of_decide_eq_true h.1
    obtain ⟨q1, q2, q3⟩ := pgs_of hN hn hl h.2
    refine ⟨pg_tup hc q1 q2 q3, fun j hj => ?_⟩
    obtain ⟨n, hn1, hn2⟩ := List.getElem_of_mem hj
    have hz : (es.zip is)[n]? = some (es[n]'(by omega), is[n]) := by
      rw [List.getElem?_eq_getElem (by rw [List.length_zip]; omega), List.getElem_zip]
    have hm := List.all_eq_true.mp h.2 _ (List.mem_of_getElem? hz)
    simp only at hm
    split at hm
    · rename_i x p e
      rw [Bool.and_eq_true] at hm
      rw [← hn2]
      exact (List.getElem?_eq_some_iff.mp (of_decide_eq_true hm.1)).1
    · cases hm

/-! ### comprehensions -/
theorem wipeE_length : ∀ (ρ : Env) (vs : List Nat), (wipeE ρ vs).length = ρ.length
  | _, [] => rfl
  | ρ, v :: vs => by unfold wipeE; rw [List.length_set, wipeE_length ρ vs]
theorem EnvR.wipe {G : Gx} {M : Mp} {S : Store} {H : Hp} {σ : L2.St} {ρ : Env} (e : EnvR G M S H σ ρ) : ∀ vs : List Nat, EnvR G M S H (L2.wipe σ vs) (wipeE ρ vs)
  | [] => e
  | v :: vs => by
    have ih := e.wipe vs
    have un : ∀ (j : Nat) (l : List D), (wipeE ρ (v :: vs))[j]? = some (.own l) → v ≠ j ∧ (wipeE ρ vs)[j]? = some (.own l) := fun j l h => by
      have h : ((wipeE ρ vs).set v .un)[j]? = some (.own l) := h
      by_cases q : v = j
      · subst q
        by_cases hv : v < (wipeE ρ vs).length
        · rw [List.getElem?_set_self hv] at h; cases h
        · rw [List.getElem?_eq_none (by rw [List.length_set]; omega)] at h; cases h
      · rw [List.getElem?_set_ne q] at h
        exact ⟨q, h⟩
    refine ⟨?_, fun j s hj => ?_, fun i j l l' p h1 h2 h3 h4 => ?_⟩
    · show ((wipeE ρ vs).set v .un).length = ((L2.wipe σ vs).set v none).length
      rw [List.length_set, List.length_set, ih.len]
    · have hj : ((wipeE ρ vs).set v .un)[j]? = some s := hj
      show SlotR G M S H ((L2.wipe σ vs).set v none)[j]? s
      by_cases q : v = j
      · subst q
        by_cases hv : v < (wipeE ρ vs).length
        · rw [List.getElem?_set_self hv] at hj
          cases hj
          exact True.intro
        · rw [List.getElem?_eq_none (by rw [List.length_set]; omega)] at hj; cases hj
      · rw [List.getElem?_set_ne q] at hj ⊢
        exact ih.sl j s hj
    · obtain ⟨n1, g1⟩ := un i l h1
      obtain ⟨n2, g2⟩ := un j l' h2
      have h3 : ((L2.wipe σ vs).set v none)[i]? = some (some (.ref p)) := h3
      have h4 : ((L2.wipe σ vs).set v none)[j]? = some (some (.ref p)) := h4
      rw [List.getElem?_set_ne n1] at h3
      rw [List.getElem?_set_ne n2] at h4
      exact ih.ap i j l l' p g1 g2 h3 h4
theorem wipe_at : ∀ (σ : L2.St) (vs : List Nat) (i : Nat), (L2.wipe σ vs)[i]? = if i ∈ vs ∧ i < σ.length then some none else σ[i]?
  | σ, [], i => by simp [L2.wipe]
  | σ, v :: vs, i => by
    show ((L2.wipe σ vs).set v none)[i]? = _
    rw [List.getElem?_set, wipe_length, wipe_at σ vs i]
    by_cases h : v = i
    · subst h
      by_cases hv : v < σ.length
      · simp [hv]
      · simp [hv]
    · simp [h, Ne.symm h]
theorem wipe_same {σ σ' : L2.St} {vs : List Nat} (hl : σ'.length = σ.length) (h : ∀ j, j ∉ vs → σ'[j]? = (L2.wipe σ vs)[j]?) : L2.wipe σ' vs = L2.wipe σ vs := by
  apply List.ext_getElem?
  intro i
  rw [wipe_at, wipe_at, hl]
  by_cases hi : i ∈ vs
  · by_cases hlt : i < σ.length
    · simp [hi, hlt]
    · rw [if_neg (by simp [hlt]), if_neg (by simp [hlt]), List.getElem?_eq_none (by omega), List.getElem?_eq_none (by omega)]
  · rw [if_neg (by simp [hi]), if_neg (by simp [hi]), h i hi, wipe_at, if_neg (by simp [hi])]
section
variable {X : Cx} {G : Gx}
theorem keptD_iff {src : Option (Nat × List D)} {S : Store} : keptD src S = true ↔ keptP src S := by
  unfold keptD
  exact @decide_eq_true_iff _ (Classical.propDecidable _)
theorem comp_read {tt : TT} {te : TE} {one : Bool} {tg : List Nat} {fi : Env → Store → Option (Bool × Store)} {fe : Env → Store → Option (D × Store)} {w : List D × Option (Nat × List D)} {σ : L2.St} {H1 : Hp} {J : L2.It} {M1 : Mp} {S1 S2 : Store} {ρ : Env} {out : List D} {Q : VK}
    (hN : ∀ i ∈ tg, i < ρ.length) (hT : ∀ σ H Q, tTf G fi σ H Q → tt σ H Q) (hE : ∀ σ H Q, tEf G fe σ H Q → te σ H Q)
    (rl : Rel G M1 S1 H1) (en : EnvR G M1 S1 H1 σ ρ) (io : ItOk G J w.1 w.2 M1 S1.length) (kp : keptP w.2 S1) (hsz : w.1.length ≤ 16777216) (hc : compD (turnC one tg w.2 fi fe ρ) w.1 S1 = some (out, S2))
    (k : ∀ p vs M' H', Rel G M' S2 H' → Ext M1 S1 H1 M' S2 H' → RpL G M' S2.length out vs → H' p = some (.lst vs) → H1 p = none → M'.F p = none → (∀ a, a < S2.length → M'.m a ≠ p) → Q (.ref p) H')
    (D0 : Addr) (hD : H1 D0 = none) : ∃ W : Nat → Nat → Hp → Prop, (∃ m, W 0 m (upd H1 D0 (.lst []))) ∧ ∀ i m H, W i m H →
      (J.stop i H ∧ Q (.ref D0) H) ∨ (J.go i H ∧ ∃ Nx : Hp → Prop, (∀ H', Nx H' → ∃ m', m' < m ∧ W (i + 1) m' H') ∧ ∀ x H', J.yld i H x H' → gOf G.K one tg x (L2.wipe σ tg) H' fun σ2 H2 => L2.wipe σ2 tg = L2.wipe σ tg ∧ tt σ2 H2 fun b H3 =>
        if b = true then te σ2 H3 fun y H4 => ∃ acc, H4 D0 = some (.lst acc) ∧ acc.length < sizeLine ∧ Nx (upd H4 D0 (.lst (acc ++ [y]))) else Nx H3) := by
  obtain ⟨r0, x0, f1, f2⟩ := rel_free (o := .lst []) rl hD
  -- what stands between two turns
  let P : Nat → Hp → Prop := fun i H => i ≤ w.1.length ∧ ∃ (M : Mp) (S : Store) (acc : List D) (vs : List V) (rest : List D), Rel G M S H ∧ Ext M1 S1 (upd H1 D0 (.lst [])) M S (upd H D0 (.lst [])) ∧ H D0 = some (.lst vs) ∧ M.F D0 = none ∧ (∀ a, a < S.length → M.m a ≠ D0) ∧ RpL G M S.length acc vs ∧
    acc.length ≤ i ∧ keptP w.2 S ∧ compD (turnC one tg w.2 fi fe ρ) (w.1.drop i) S = some (rest, S2) ∧ acc ++ rest = out ∧ Up M1 M S1.length S.length ∧ (∀ p o, p ≠ D0 → H1 p = some o → M1.F p = none → (∀ a, a < S1.length → M1.m a ≠ p) → H p = some o ∧ M.F p = none ∧ ∀ a, a < S.length → M.m a ≠ p)
  refine ⟨fun i m H => m = w.1.length - i ∧ P i H, ⟨_, rfl, Nat.zero_le _, M1, S1, [], [], out, r0, ?_, upd_same, f1, f2, RpL.nil, Nat.zero_le _, kp, hc, rfl, .refl, fun p o hp h1 h2 h3 => ⟨by rw [upd_ne hp]; exact h1, h2, h3⟩⟩, ?_⟩
  · rw [upd_upd]; exact .refl
  rintro i m H ⟨rfl, hi, M, S, acc, vs, rest, r, x, hv, g1, g2, pa, hacc, kp2, hcd, hout, up, fg⟩
  obtain ⟨io1, io2, io3⟩ := io M S H r up kp2 i
  by_cases hlt : i < w.1.length
  · -- a turn
    rw [List.drop_eq_getElem_cons hlt] at hcd
    obtain ⟨rr, hr, hcd⟩ := Option.bind_eq_some_iff.mp (show (turnC one tg w.2 fi fe ρ w.1[i] S).bind _ = _ from hcd)
    refine .inr ⟨io1 hlt, P (i + 1), fun H' p' => ⟨w.1.length - (i + 1), by omega, rfl, p'⟩, fun v H' hy => ?_⟩
    obtain ⟨M', r', x', p'⟩ := io3 v H' _ (List.getElem?_eq_getElem hlt) hy
    obtain ⟨ρ1, hρ, hr⟩ := Option.bind_eq_some_iff.mp (show (putT (wipeE ρ tg) one tg w.1[i]).bind _ = _ from hr)
    obtain ⟨b, hb, hr⟩ := Option.bind_eq_some_iff.mp hr
    obtain ⟨q, hq, hr⟩ := Option.bind_eq_some_iff.mp hr
    split at hr
    · rename_i ck
      cases hr
      have ck := keptD_iff.mp ck
      -- the names
      have en0 : EnvR G M S H σ ρ := by
        refine ⟨en.len, fun j s hj => ?_, en.ap⟩
        have z := en.sl j s hj
        cases s with
        | un => exact True.intro
        | val d =>
          obtain ⟨u, z1, z2⟩ := z
          exact ⟨u, z1, z2.up up⟩
        | own l =>
          obtain ⟨p, us, z1, z2, z3, z4, z5⟩ := z
          obtain ⟨y1, y2, y3⟩ := fg p _ (fun e => by rw [e, hD] at z2; cases z2) z2 z4 z5
          exact ⟨p, us, z1, y1, z3.up up, y2, y3⟩
      have en1 := (en0.ext x').wipe tg
      refine putT_read r' en1 p' (fun j hj => by rw [wipeE_length]; exact hN j hj) hρ fun σ' e' hl' hs => ⟨wipe_same (by rw [hl', wipe_length]) hs, ?_⟩
      refine hT _ _ _ (tTf.mk r' e' hb fun M3 H3 r3 x3 => ?_)
      obtain ⟨b1, b2⟩ := b
      -- the new list is nobody's, all the way
      have dd : ∀ {M' S' H'}, Ext M S H M' S' H' → H' D0 = some (.lst vs) ∧ M'.F D0 = none ∧ ∀ a, a < S'.length → M'.m a ≠ D0 := fun z => z.fgn D0 _ hv g1 g2
      have ff : ∀ {M' : Mp} {S' : Store} {H' : Hp}, Ext M S H M' S' H' → ∀ p o, p ≠ D0 → H1 p = some o → M1.F p = none → (∀ a, a < S1.length → M1.m a ≠ p) → H' p = some o ∧ M'.F p = none ∧ ∀ a, a < S'.length → M'.m a ≠ p := fun z p o hp h1 h2 h3 =>
        let ⟨y1, y2, y3⟩ := fg p o hp h1 h2 h3
        z.fgn p o y1 y2 y3
      cases b1 with
      | true =>
        obtain ⟨y, hy2, hq⟩ := Option.map_eq_some_iff.mp (show (fe ρ1 b2).map (fun y => ((some y.1, y.2) : Option D × Store)) = some rr from hq)
        subst hq
        refine iteT (hE _ _ _ (tEf.mk r3 (e'.ext x3) hy2 fun u M4 H4 r4 x4 p4 => ?_))
        have xx := (x'.trans x3).trans x4
        obtain ⟨d1, d2, d3⟩ := dd xx
        obtain ⟨qq, hqq, hcd⟩ := Option.map_eq_some_iff.mp (show (compD (turnC one tg w.2 fi fe ρ) (w.1.drop (i + 1)) y.2).map (fun q => (y.1 :: q.1, q.2)) = some (rest, S2) from hcd)
        have pa4 := (pa.up xx.up).append (RpL.cons p4 RpL.nil)
        have hlen := pa.length
        refine ⟨vs, d1, by rw [sizeLine_eq]; omega, by omega, M4, y.2, acc ++ [y.1], vs ++ [u], qq.1, rel_chg r4 d2 d3, ?_, upd_same, d2, d3, pa4, by rw [List.length_append]; show acc.length + 1 ≤ i + 1; omega, ck, ?_, ?_, up.trans xx.up, fun p o hp h1 h2 h3 => ?_⟩
        · exact ⟨up.trans xx.up, fun p o h1 h2 h3 => by
            rw [upd_upd]
            by_cases hp : p = D0
            · subst hp
              rw [upd_same] at h1 ⊢
              exact ⟨h1, d2, d3⟩
            · rw [upd_ne hp] at h1 ⊢
              exact ff xx p o hp h1 h2 h3⟩
        · rw [hqq]
          have e2 : qq.2 = S2 := (congrArg Prod.snd hcd)
          rw [← e2]
        · have e1 : y.1 :: qq.1 = rest := congrArg Prod.fst hcd
          rw [← hout, ← e1, List.append_assoc] <;> rfl
        · rw [upd_ne hp]
          exact ff xx p o hp h1 h2 h3
      | false =>
        have hq := Option.some.inj (show some ((none : Option D), b2) = some rr from hq)
        subst hq
        have xx := x'.trans x3
        obtain ⟨d1, d2, d3⟩ := dd xx
        refine iteF ⟨by omega, M3, b2, acc, vs, rest, r3, ?_, d1, d2, d3, pa.up xx.up, by omega, ck, hcd, hout, up.trans xx.up, fun p o hp h1 h2 h3 => ff xx p o hp h1 h2 h3⟩
        exact ⟨up.trans xx.up, fun p o h1 h2 h3 => by
          by_cases hp : p = D0
          · subst hp
            rw [upd_same] at h1 ⊢
            exact ⟨h1, d2, d3⟩
          · rw [upd_ne hp] at h1 ⊢
            exact ff xx p o hp h1 h2 h3⟩
    · cases hr
  · -- the end
    have e : i = w.1.length := by omega
    subst e
    rw [List.drop_length] at hcd
    have hcd := Option.some.inj (show some (([] : List D), S) = some (rest, S2) from hcd)
    cases hcd
    rw [List.append_nil] at hout
    subst hout
    refine .inl ⟨io2 (Nat.le_refl _), k D0 vs M H r ⟨up, fun p o h1 h2 h3 => fg p o (fun e => by rw [e, hD] at h1; cases h1) h1 h2 h3⟩ pa hv hD g1 g2⟩
end
end HN

/-! The statements of HN, one rule each. -/
namespace HN
open PySem L2

/-- the list at p is a name's own -/
def Own (σ : L2.St) (ρ : Env) (p : Addr) : Prop := ∃ (i : Nat) (l : List D), ρ[i]? = some (.own l) ∧ σ[i]? = some (some (.ref p))
structure ExtS (M : Mp) (S : Store) (H : Hp) (σ : L2.St) (ρ : Env) (M' : Mp) (S' : Store) (H' : Hp) (σ' : L2.St) (ρ' : Env) : Prop where
  up : Up M M' S.length S'.length
  fgn : ∀ p o, H p = some o → M.F p = none → (∀ a, a < S.length → M.m a ≠ p) → ¬ Own σ ρ p → H' p = some o ∧ M'.F p = none ∧ (∀ a, a < S'.length → M'.m a ≠ p) ∧ ¬ Own σ' ρ' p
structure ExtR (M : Mp) (S : Store) (H : Hp) (σ : L2.St) (ρ : Env) (M' : Mp) (S' : Store) (H' : Hp) : Prop where
  up : Up M M' S.length S'.length
  fgn : ∀ p o, H p = some o → M.F p = none → (∀ a, a < S.length → M.m a ≠ p) → ¬ Own σ ρ p → H' p = some o ∧ M'.F p = none ∧ ∀ a, a < S'.length → M'.m a ≠ p
section
variable {G : Gx} {M M1 M2 : Mp} {S S1 S2 : Store} {H H1 H2 : Hp} {σ σ1 σ2 : L2.St} {ρ ρ1 ρ2 : Env}
theorem ExtS.refl : ExtS M S H σ ρ M S H σ ρ := ⟨.refl, fun p o h1 h2 h3 h4 => ⟨h1, h2, h3, h4⟩⟩
theorem ExtS.trans (a : ExtS M S H σ ρ M1 S1 H1 σ1 ρ1) (b : ExtS M1 S1 H1 σ1 ρ1 M2 S2 H2 σ2 ρ2) : ExtS M S H σ ρ M2 S2 H2 σ2 ρ2 :=
  ⟨a.up.trans b.up, fun p o h1 h2 h3 h4 => let ⟨q1, q2, q3, q4⟩ := a.fgn p o h1 h2 h3 h4; b.fgn p o q1 q2 q3 q4⟩
theorem ExtS.toR (a : ExtS M S H σ ρ M1 S1 H1 σ1 ρ1) (b : ExtR M1 S1 H1 σ1 ρ1 M2 S2 H2) : ExtR M S H σ ρ M2 S2 H2 :=
  ⟨a.up.trans b.up, fun p o h1 h2 h3 h4 => let ⟨q1, q2, q3, q4⟩ := a.fgn p o h1 h2 h3 h4; b.fgn p o q1 q2 q3 q4⟩
theorem Ext.toS (a : Ext M S H M1 S1 H1) : ExtS M S H σ ρ M1 S1 H1 σ ρ := ⟨a.up, fun p o h1 h2 h3 h4 => let ⟨q1, q2, q3⟩ := a.fgn p o h1 h2 h3; ⟨q1, q2, q3, h4⟩⟩
theorem Ext.toR (a : Ext M S H M1 S1 H1) : ExtR M S H σ ρ M1 S1 H1 := ⟨a.up, fun p o h1 h2 h3 _ => a.fgn p o h1 h2 h3⟩
/-- fewer own lists -/
theorem ExtS.less (a : ExtS M S H σ ρ M1 S1 H1 σ1 ρ1) (h : ∀ p, Own σ2 ρ2 p → Own σ1 ρ1 p) : ExtS M S H σ ρ M1 S1 H1 σ2 ρ2 :=
  ⟨a.up, fun p o h1 h2 h3 h4 => let ⟨q1, q2, q3, q4⟩ := a.fgn p o h1 h2 h3 h4; ⟨q1, q2, q3, fun z => q4 (h p z)⟩⟩
theorem own_put {i : Nat} {d : D} {v : V} {p : Addr} (h : Own (σ.set i (some v)) (putV ρ i d) p) (hl : ρ.length = σ.length) : Own σ ρ p := by
  obtain ⟨j, l, h1, h2⟩ := h
  unfold putV at h1
  by_cases q : i = j
  · subst q
    by_cases hi : i < ρ.length
    · rw [List.getElem?_set_self hi] at h1; cases h1
    · rw [List.getElem?_eq_none (by rw [List.length_set]; omega)] at h1; cases h1
  · rw [List.getElem?_set_ne q] at h1 h2
    exact ⟨j, l, h1, h2⟩
/-- a name gets a list of its own at p -/
theorem own_putO {i : Nat} {l : List D} {p q : Addr} (h : Own (σ.set i (some (.ref p))) (ρ.set i (.own l)) q) (hl : ρ.length = σ.length) : q = p ∨ Own σ ρ q := by
  obtain ⟨j, l', h1, h2⟩ := h
  by_cases e : i = j
  · subst e
    by_cases hi : i < ρ.length
    · rw [List.getElem?_set_self (by rw [← hl]; exact hi)] at h2
      cases h2
      exact .inl rfl
    · rw [List.getElem?_eq_none (by rw [List.length_set]; omega)] at h1; cases h1
  · rw [List.getElem?_set_ne e] at h1 h2
    exact .inr ⟨j, l', h1, h2⟩
theorem own_fresh (e : EnvR G M S H σ ρ) {p : Addr} (h : H p = none) : ¬ Own σ ρ p := fun ⟨i, l, h1, h2⟩ => by
  obtain ⟨q, vs, z1, z2, _⟩ := e.sl i _ h1
  rw [h2] at z1
  cases z1
  rw [h] at z2
  cases z2
end

def tSf (G : Gx) (f : Env → Store → Option Fl) : TS := fun D σ H => ∃ (M : Mp) (S : Store) (ρ : Env) (r : Fl), Rel G M S H ∧ EnvR G M S H σ ρ ∧ f ρ S = some r ∧
  match r with
  | .nx ρ' S' => ∀ σ' M' H', Rel G M' S' H' → ExtS M S H σ ρ M' S' H' σ' ρ' → EnvR G M' S' H' σ' ρ' → D.nx σ' H'
  | .rt d S' => ∀ v M' H', Rel G M' S' H' → ExtR M S H σ ρ M' S' H' → Rp G M' S'.length d v → D.rt v H'
section
variable {G : Gx} {M : Mp} {S S' : Store} {ρ ρ' : Env} {σ : L2.St} {H : Hp}
theorem tSf.nx {f : Env → Store → Option Fl} {D : Ends} (r : Rel G M S H) (e : EnvR G M S H σ ρ) (h : f ρ S = some (.nx ρ' S')) (k : ∀ σ' M' H', Rel G M' S' H' → ExtS M S H σ ρ M' S' H' σ' ρ' → EnvR G M' S' H' σ' ρ' → D.nx σ' H') : tSf G f D σ H :=
  ⟨M, S, ρ, _, r, e, h, k⟩
theorem tSf.rt {f : Env → Store → Option Fl} {d : D} {D : Ends} (r : Rel G M S H) (e : EnvR G M S H σ ρ) (h : f ρ S = some (.rt d S')) (k : ∀ v M' H', Rel G M' S' H' → ExtR M S H σ ρ M' S' H' → Rp G M' S'.length d v → D.rt v H') : tSf G f D σ H :=
  ⟨M, S, ρ, _, r, e, h, k⟩
end
def notComp : Expr → Bool
  | .ListComp .. => false
  | .SetComp .. => false
  | .DictComp .. => false
  | _ => true
theorem sw_false {e : Expr} (h : notComp e = true) (t : Option Expr) (l : Nat) (env : PySem.Env) : swapsWith e t l env = pure false := by
  cases e <;> first | rfl | exact nb h
section
variable {X : Cx} {G : Gx}
theorem p_nil : PSs X [] (tSf G fun ρ S => some (.nx ρ S)) := by
  refine pss_weak pss_nil fun D σ H h => ?_
  obtain ⟨M, S, ρ, r, rl, e, h, k⟩ := h
  cases h
  exact k σ M H rl .refl e
theorem p_cons {st : Stmt} {rest : List Stmt} {f g : Env → Store → Option Fl} (h1 : PS X st (tSf G f)) (h2 : PSs X rest (tSf G g)) : PSs X (st :: rest) (tSf G fun ρ S => (f ρ S).bind fun r => match r with | .nx ρ1 S1 => g ρ1 S1 | .rt d S1 => some (.rt d S1)) := by
  refine pss_weak (pss_cons h1 h2) fun D σ H h => ?_
  obtain ⟨M, S, ρ, r, rl, e, h, k⟩ := h
  obtain ⟨q, hq, h⟩ := Option.bind_eq_some_iff.mp h
  cases q with
  | nx ρ1 S1 =>
    refine tSf.nx rl e hq fun σ1 M1 H1 r1 x1 e1 => ?_
    cases r with
    | nx ρ2 S2 => exact tSf.nx r1 e1 h fun σ2 M2 H2 r2 x2 e2 => k σ2 M2 H2 r2 (x1.trans x2) e2
    | rt d S2 => exact tSf.rt r1 e1 h fun v M2 H2 r2 x2 p2 => k v M2 H2 r2 (x1.toR x2) p2
  | rt d S1 =>
    cases h
    exact tSf.rt rl e hq k
/-- pseudo statements: nothing is run -/
theorem p_ghost {rest : List Stmt} {f g : Env → Store → Option Fl} (h2 : PSs X rest (tSf G g))
    (hf : ∀ ρ S r, f ρ S = some r → ∃ ρ1 S1, r = .nx ρ1 S1 ∧ ∀ M H σ, Rel G M S H → EnvR G M S H σ ρ → ∃ M1, Rel G M1 S1 H ∧ ExtS M S H σ ρ M1 S1 H σ ρ1 ∧ EnvR G M1 S1 H σ ρ1) :
    PSs X rest (tSf G fun ρ S => (f ρ S).bind fun r => match r with | .nx ρ1 S1 => g ρ1 S1 | .rt d S1 => some (.rt d S1)) := by
  refine pss_weak h2 fun D σ H h => ?_
  obtain ⟨M, S, ρ, r, rl, e, h, k⟩ := h
  obtain ⟨q, hq, h⟩ := Option.bind_eq_some_iff.mp h
  obtain ⟨ρ1, S1, e1, hm⟩ := hf ρ S q hq
  subst e1
  obtain ⟨M1, r1, x1, e1⟩ := hm M H σ rl e
  cases r with
  | nx ρ2 S2 => exact tSf.nx r1 e1 h fun σ2 M2 H2 r2 x2 e2 => k σ2 M2 H2 r2 (x1.trans x2) e2
  | rt d S2 => exact tSf.rt r1 e1 h fun v M2 H2 r2 x2 p2 => k v M2 H2 r2 (x1.toR x2) p2
theorem g_freeze {i : Nat} (ρ : Env) (S : Store) (r : Fl) (h : (getO ρ i).map (fun l => Fl.nx (putV ρ i (.lst l)) S) = some r) :
    ∃ ρ1 S1, r = .nx ρ1 S1 ∧ ∀ M H σ, Rel G M S H → EnvR G M S H σ ρ → ∃ M1, Rel G M1 S1 H ∧ ExtS M S H σ ρ M1 S1 H σ ρ1 ∧ EnvR G M1 S1 H σ ρ1 := by
  obtain ⟨l, hl, e⟩ := Option.map_eq_some_iff.mp h
  subst e
  refine ⟨_, _, rfl, fun M H σ rl en => ?_⟩
  obtain ⟨h0, p, vs, h1, h2, h3, h4, h5⟩ := en.getO hl
  obtain ⟨r1, u1⟩ := rel_freeze rl h2 h4 h5
  have hi : i < ρ.length := (List.getElem?_eq_some_iff.mp h0).1
  have ows : ∀ q, Own σ (putV ρ i (.lst l)) q → Own σ ρ q ∧ q ≠ p := fun q hq => by
    obtain ⟨j, l', g1, g2⟩ := hq
    unfold putV at g1
    by_cases e : i = j
    · subst e
      rw [List.getElem?_set_self hi] at g1; cases g1
    · rw [List.getElem?_set_ne e] at g1
      exact ⟨⟨j, l', g1, g2⟩, fun z => e (en.ap i j l l' p h0 g1 h1 (by rw [g2, z]))⟩
  refine ⟨_, r1, ⟨u1, fun q o g1 g2 g3 g4 => ?_⟩, ?_⟩
  · have ne : q ≠ p := fun z => g4 ⟨i, l, h0, by rw [h1, z]⟩
    refine ⟨g1, ?_, g3, fun z => g4 (ows q z).1⟩
    show upd M.F p _ q = none
    rw [upd_ne ne]; exact g2
  · refine ⟨by unfold putV; rw [List.length_set]; exact en.len, fun j s hj => ?_, fun j k l1 l2 q g1 g2 g3 g4 => ?_⟩
    · unfold putV at hj
      by_cases e : i = j
      · subst e
        rw [List.getElem?_set_self hi] at hj
        cases hj
        exact ⟨.ref p, h1, p, vs, rfl, upd_same, h3.up u1⟩
      · rw [List.getElem?_set_ne e] at hj
        have z := en.sl j s hj
        cases s with
        | un => exact True.intro
        | val d =>
          obtain ⟨v, z1, z2⟩ := z
          exact ⟨v, z1, z2.up u1⟩
        | own l' =>
          obtain ⟨q, us, z1, z2, z3, z4, z5⟩ := z
          refine ⟨q, us, z1, z2, z3.up u1, ?_, z5⟩
          show upd M.F p _ q = none
          rw [upd_ne fun w => e (en.ap i j l l' p h0 hj h1 (by rw [z1, w]))]
          exact z4
    · unfold putV at g1 g2
      have n1 : i ≠ j := by
        rintro rfl
        rw [List.getElem?_set_self hi] at g1; cases g1
      have n2 : i ≠ k := by
        rintro rfl
        rw [List.getElem?_set_self hi] at g2; cases g2
      rw [List.getElem?_set_ne n1] at g1
      rw [List.getElem?_set_ne n2] at g2
      exact en.ap j k l1 l2 q g1 g2 g3 g4
theorem g_share {i : Nat} (ρ : Env) (S : Store) (r : Fl) (h : (getO ρ i).map (fun l => Fl.nx (putV ρ i (.ref S.length)) (S ++ [.lst l])) = some r) :
    ∃ ρ1 S1, r = .nx ρ1 S1 ∧ ∀ M H σ, Rel G M S H → EnvR G M S H σ ρ → ∃ M1, Rel G M1 S1 H ∧ ExtS M S H σ ρ M1 S1 H σ ρ1 ∧ EnvR G M1 S1 H σ ρ1 := by
  obtain ⟨l, hl, e⟩ := Option.map_eq_some_iff.mp h
  subst e
  refine ⟨_, _, rfl, fun M H σ rl en => ?_⟩
  obtain ⟨h0, p, vs, h1, h2, h3, h4, h5⟩ := en.getO hl
  obtain ⟨r1, u1, e1⟩ := rel_share (o := .lst l) rl ⟨vs, h2, h3⟩ h4 h5
  have hi : i < ρ.length := (List.getElem?_eq_some_iff.mp h0).1
  have hlen : (S ++ [SO.lst l]).length = S.length + 1 := by simp
  have ows : ∀ q, Own σ (putV ρ i (.ref S.length)) q → Own σ ρ q ∧ q ≠ p := fun q hq => by
    obtain ⟨j, l', g1, g2⟩ := hq
    unfold putV at g1
    by_cases e : i = j
    · subst e
      rw [List.getElem?_set_self hi] at g1; cases g1
    · rw [List.getElem?_set_ne e] at g1
      exact ⟨⟨j, l', g1, g2⟩, fun z => e (en.ap i j l l' p h0 g1 h1 (by rw [g2, z]))⟩
  have nm : ∀ q, q ≠ p → (∀ a, a < S.length → M.m a ≠ q) → ∀ a, a < (S ++ [SO.lst l]).length → (M.push S.length p).m a ≠ q := fun q hq g a ha => by
    rw [hlen] at ha
    by_cases hlt : a < S.length
    · rw [u1.m a hlt]; exact g a hlt
    · have ea : a = S.length := by omega
      rw [ea, e1]
      exact Ne.symm hq
  refine ⟨_, r1, ⟨u1, fun q o g1 g2 g3 g4 => ?_⟩, ?_⟩
  · have ne : q ≠ p := fun z => g4 ⟨i, l, h0, by rw [h1, z]⟩
    exact ⟨g1, g2, nm q ne g3, fun z => g4 (ows q z).1⟩
  · refine ⟨by unfold putV; rw [List.length_set]; exact en.len, fun j s hj => ?_, fun j k l1 l2 q g1 g2 g3 g4 => ?_⟩
    · unfold putV at hj
      by_cases e : i = j
      · subst e
        rw [List.getElem?_set_self hi] at hj
        cases hj
        exact ⟨.ref p, h1, by rw [hlen]; exact Nat.lt_succ_self _, by rw [e1]⟩
      · rw [List.getElem?_set_ne e] at hj
        have z := en.sl j s hj
        cases s with
        | un => exact True.intro
        | val d =>
          obtain ⟨v, z1, z2⟩ := z
          exact ⟨v, z1, z2.up u1⟩
        | own l' =>
          obtain ⟨q, us, z1, z2, z3, z4, z5⟩ := z
          exact ⟨q, us, z1, z2, z3.up u1, z4, nm q (fun w => e (en.ap i j l l' p h0 hj h1 (by rw [z1, w]))) z5⟩
    · unfold putV at g1 g2
      have n1 : i ≠ j := by
        rintro rfl
        rw [List.getElem?_set_self hi] at g1; cases g1
      have n2 : i ≠ k := by
        rintro rfl
        rw [List.getElem?_set_self hi] at g2; cases g2
      rw [List.getElem?_set_ne n1] at g1
      rw [List.getElem?_set_ne n2] at g2
      exact en.ap j k l1 l2 q g1 g2 g3 g4

/-! ### plain statements -/
theorem p_expr {e : Expr} {fe : Env → Store → Option (D × Store)} {pos : Pos} (he : PE X e (tEf G fe)) (hn : notComp e = true) : PS X (.Expr e pos) (tSf G fun ρ S => (fe ρ S).map fun x => .nx ρ x.2) := by
  refine ps_weak (ps_expr he (sw_false hn _ _ _)) fun D σ H h => ?_
  obtain ⟨M, S, ρ, r, rl, en, h, k⟩ := h
  obtain ⟨x, hx, h⟩ := Option.map_eq_some_iff.mp h
  subst h
  exact tEf.mk rl en hx fun v M1 H1 r1 x1 p1 => k σ M1 H1 r1 x1.toS (en.ext x1)
theorem p_ret {e : Expr} {fe : Env → Store → Option (D × Store)} {pos : Pos} (he : PE X e (tEf G fe)) : PS X (.Return (some e) pos) (tSf G fun ρ S => (fe ρ S).map fun x => .rt x.1 x.2) := by
  refine ps_weak (ps_ret he) fun D σ H h => ?_
  obtain ⟨M, S, ρ, r, rl, en, h, k⟩ := h
  obtain ⟨x, hx, h⟩ := Option.map_eq_some_iff.mp h
  subst h
  exact tEf.mk rl en hx fun v M1 H1 r1 x1 p1 => k v M1 H1 r1 x1.toR p1
theorem p_retN {pos : Pos} : PS X (.Return none pos) (tSf G fun _ S => some (.rt .non S)) := by
  refine ps_weak ps_retN fun D σ H h => ?_
  obtain ⟨M, S, ρ, r, rl, en, h, k⟩ := h
  cases h
  exact k .non M H rl Ext.refl.toR rfl
theorem p_pass {pos : Pos} : PS X (.Pass pos) (tSf G fun ρ S => some (.nx ρ S)) := by
  refine ps_weak ps_pass fun D σ H h => ?_
  obtain ⟨M, S, ρ, r, rl, en, h, k⟩ := h
  cases h
  exact k σ M H rl .refl en
theorem p_doc {x : Str} {j : Nat} {pos pos' : Pos} : PS X (.Expr (.Constant (.str x) j pos) pos') (tSf G fun ρ S => some (.nx ρ S)) := by
  refine ps_weak ps_doc fun D σ H h => ?_
  obtain ⟨M, S, ρ, r, rl, en, h, k⟩ := h
  cases h
  exact k σ M H rl .refl en
end
section
variable {X : Cx} {G : Gx}
theorem len_of {i : Nat} {x : Str} (h : X.N[i]? = some x) : i < X.N.length := (List.getElem?_eq_some_iff.mp h).1
theorem ps_len {st : Stmt} {t t' : TS} (h : PS X st t) (i : ∀ D σ H, σ.length = X.N.length → t' D σ H → t D σ H) : PS X st t' := ⟨fun pins s σ H D I q => h.run pins s σ H D I (i _ _ _ I.len q)⟩
theorem setV_read {i : Nat} {te : TE} {fe : Env → Store → Option (D × Store)} {D : Ends} {σ : L2.St} {H : Hp} (ht : ∀ σ H Q, tEf G fe σ H Q → te σ H Q) (hi : i < X.N.length) (hs : σ.length = X.N.length)
    (h : tSf G (fun ρ S => (fe ρ S).map fun x => .nx (putV ρ i x.1) x.2) D σ H) : tAsg te (gName i) D σ H := by
  obtain ⟨M, S, ρ, r, rl, en, h, k⟩ := h
  obtain ⟨x, hx, h⟩ := Option.map_eq_some_iff.mp h
  subst h
  refine ht _ _ _ (tEf.mk rl en hx fun v M1 H1 r1 x1 p1 => ?_)
  have e1 := en.ext x1
  exact k (σ.set i (some v)) M1 H1 r1 (x1.toS.less fun p z => own_put z e1.len) (e1.putV (by rw [e1.len, hs]; exact hi) p1)
theorem setL_read {i : Nat} {te : TE} {fl : Env → Store → Option (List D × Store)} {D : Ends} {σ : L2.St} {H : Hp} (ht : ∀ σ H Q, tLf G fl σ H Q → te σ H Q) (hi : i < X.N.length) (hs : σ.length = X.N.length)
    (h : tSf G (fun ρ S => (fl ρ S).map fun x => .nx (ρ.set i (.own x.1)) x.2) D σ H) : tAsg te (gName i) D σ H := by
  obtain ⟨M, S, ρ, r, rl, en, h, k⟩ := h
  obtain ⟨x, hx, h⟩ := Option.map_eq_some_iff.mp h
  subst h
  refine ht _ _ _ ⟨M, S, ρ, x.1, x.2, rl, en, hx, fun p vs M1 H1 r1 x1 p1 hp hn f1 f2 => ?_⟩
  have e1 := en.ext x1
  have no : ¬ Own σ ρ p := own_fresh en hn
  refine k (σ.set i (some (.ref p))) M1 H1 r1 ⟨x1.up, fun q o g1 g2 g3 g4 => ?_⟩ (e1.putO (by rw [e1.len, hs]; exact hi) hp p1 f1 f2 fun j l' z1 z2 => no ⟨j, l', z1, z2⟩)
  obtain ⟨y1, y2, y3⟩ := x1.fgn q o g1 g2 g3
  refine ⟨y1, y2, y3, fun z => ?_⟩
  rcases own_putO z e1.len with z | z
  · rw [z, hn] at g1; cases g1
  · exact g4 z
/-- name = e -/
theorem p_set {i : Nat} {x : Str} {e : Expr} {te : TE} {fe : Env → Store → Option (D × Store)} {pos pos' : Pos} (hp : PS X (.Assign [.Name x pos'] e pos) (tAsg te (gName i))) (hN : X.N[i]? = some x) (ht : ∀ σ H Q, tEf G fe σ H Q → te σ H Q) :
    PS X (.Assign [.Name x pos'] e pos) (tSf G fun ρ S => (fe ρ S).map fun x => .nx (putV ρ i x.1) x.2) := ps_len hp fun D σ H hs h => setV_read ht (len_of hN) hs h
theorem p_setO {i : Nat} {x : Str} {e : Expr} {te : TE} {fl : Env → Store → Option (List D × Store)} {pos pos' : Pos} (hp : PS X (.Assign [.Name x pos'] e pos) (tAsg te (gName i))) (hN : X.N[i]? = some x) (ht : ∀ σ H Q, tLf G fl σ H Q → te σ H Q) :
    PS X (.Assign [.Name x pos'] e pos) (tSf G fun ρ S => (fl ρ S).map fun x => .nx (ρ.set i (.own x.1)) x.2) := ps_len hp fun D σ H hs h => setL_read ht (len_of hN) hs h
/-- a, b = e -/
theorem own_putVs : ∀ {is : List Nat} {ds : List D} {vs : List V} {M : Mp} {S : Store} {H : Hp} {σ : L2.St} {ρ ρ' : Env} {Q : L2.St → Hp → Prop}, EnvR G M S H σ ρ → RpL G M S.length ds vs → (∀ i ∈ is, i < ρ.length) → putVs ρ is ds = some ρ' →
    (∀ σ', EnvR G M S H σ' ρ' → (∀ p, Own σ' ρ' p → Own σ ρ p) → Q σ' H) → gNames is vs σ H Q
  | [], [], vs, M, S, H, σ, ρ, ρ', Q, e, p, hi, h, k => by
    cases h
    exact ⟨p, k σ e fun _ z => z⟩
  | [], _ :: _, _, _, _, _, _, _, _, _, _, _, _, h, _ => nn h
  | _ :: _, [], _, _, _, _, _, _, _, _, _, _, _, h, _ => nn h
  | i :: is, d :: ds, vs, M, S, H, σ, ρ, ρ', Q, e, p, hi, h, k => by
    obtain ⟨v, r, ev, pv, pr⟩ := p
    have h : putVs (putV ρ i d) is ds = some ρ' := h
    have e2 := e.putV (hi i List.mem_cons_self) pv
    refine ⟨v, r, ev, ?_⟩
    show gNames is r (σ.set i (some v)) H Q
    exact own_putVs e2 pr (fun j hj => by rw [show (putV ρ i d).length = ρ.length from List.length_set]; exact hi j (List.mem_cons_of_mem _ hj)) h fun σ' e' hs => k σ' e' fun p z => own_put (hs p z) e.len
theorem own_putT {one : Bool} {is : List Nat} {d : D} {x : V} {M : Mp} {S : Store} {H : Hp} {σ : L2.St} {ρ ρ' : Env} {Q : L2.St → Hp → Prop} (r : Rel G M S H) (e : EnvR G M S H σ ρ) (p : Rp G M S.length d x) (hi : ∀ i ∈ is, i < ρ.length) (h : putT ρ one is d = some ρ')
    (k : ∀ σ', EnvR G M S H σ' ρ' → (∀ p, Own σ' ρ' p → Own σ ρ p) → Q σ' H) : gOf G.K one is x σ H Q := by
  cases one with
  | true =>
    match is, h with
    | [i], h =>
      have h := Option.some.inj (show some (putV ρ i d) = some ρ' from h)
      subst h
      exact k _ (e.putV (hi i (by simp)) p) fun p z => own_put z e.len
    | [], h => exact nn h
    | _ :: _ :: _, h => exact nn h
  | false =>
    cases d <;> first | exact nn h | skip
    rename_i ds
    obtain ⟨q, vs, e1, s, t⟩ := p
    have h : putVs ρ is ds = some ρ' := h
    exact ⟨q, vs, e1, sqT_up r.sub s.sq, by rw [← t.length]; exact putVs_len h, own_putVs e t hi h k⟩
def notTuple : Expr → Bool
  | .Tuple _ _ _ => false
  | _ => true
theorem sole_false {e tg : Expr} (h : notComp e = true) (l : Nat) (env : PySem.Env) : swapsWithSole [tg] e l env = pure false := sw_false h _ _ _
theorem stores_none {e tg : Expr} (h : notTuple e = true) (env : PySem.Env) : swappedStores [tg] e env = pure none := by
  cases tg <;> cases e <;> first | rfl | exact nb h
/-- one of the names stands in a cell -/
def celT (sc : Scope) : Expr → Bool
  | .Tuple ts _ _ => ts.any fun t => match t with | .Name x _ => decide (sc.names.lookup x = some .cell) | _ => false
  | _ => false
theorem stores_cell {tg e : Expr} {env : PySem.Env} (h : celT env.scope tg = true) : swappedStores [tg] e env = pure none := by
  cases tg <;> first | exact nb h | skip
  rename_i ts k p
  obtain ⟨t, ht, hc⟩ := List.any_eq_true.mp (show (ts.any fun t => match t with | .Name x _ => decide (env.scope.names.lookup x = some .cell) | _ => false) = true from h)
  cases t <;> first | exact nb hc | skip
  rename_i x px
  have hc : env.scope.names.lookup x = some .cell := of_decide_eq_true hc
  have hk : ¬ env.kindOf x = some .local := by
    show ¬ env.scope.names.lookup x = some .local
    rw [hc]
    exact fun z => by cases z
  cases e <;> first | rfl | skip
  unfold swappedStores
  simp only [pure_bind]
  split
  · rfl
  · split
    · rfl
    · rw [if_pos]
      simp
      left
      exact ⟨_, ht, by simp [hk]⟩
theorem p_setT {is : List Nat} {tg e : Expr} {fe : Env → Store → Option (D × Store)} {pos : Pos} (hK : X.K = G.K) (he : PE X e (tEf G fe)) (hg : PG X tg (gOf X.K false is)) (hi : ∀ i ∈ is, i < X.N.length) (hn : notComp e = true) (ht : notTuple e = true ∨ celT X.env.scope tg = true)
    (h1 : (assignEach [tg] X.env).map (·.2) = [assign tg X.env]) : PS X (.Assign [tg] e pos) (tSf G fun ρ S => (fe ρ S).bind fun x => match x.1 with | .tup ds => (putVs ρ is ds).map fun ρ1 => .nx ρ1 x.2 | _ => none) := by
  refine ps_len (ps_asg he hg (sole_false hn _ _) (ht.elim (fun ht => stores_none ht _) stores_cell) h1) fun D σ H hs h => ?_
  obtain ⟨M, S, ρ, r, rl, en, h, k⟩ := h
  obtain ⟨⟨x1, x2⟩, hx, h⟩ := Option.bind_eq_some_iff.mp h
  cases x1 with
  | tup ds =>
    obtain ⟨ρ1, hρ, h⟩ := Option.map_eq_some_iff.mp (show (putVs ρ is ds).map (fun ρ1 => Fl.nx ρ1 x2) = some r from h)
    subst h
    refine tEf.mk rl en hx fun v M1 H1 r1 q1 p1 => ?_
    have e1 := en.ext q1
    rw [hK]
    refine own_putT (one := false) (ρ' := ρ1) r1 e1 p1 (fun i z => by rw [e1.len, hs]; exact hi i z) hρ fun σ' e' ow => k σ' M1 H1 r1 (q1.toS.less ow) e'
  | _ => exact nn h
theorem p_setLs {is : List Nat} {tg e : Expr} {fe : Env → Store → Option (D × Store)} {pos : Pos} (he : PE X e (tEf G fe)) (hg : PG X tg (gLst X.K is.length (gNames is))) (hK : X.K = G.K) (hi : ∀ i ∈ is, i < X.N.length) (hn : notComp e = true) (ht : notTuple e = true)
    (h1 : (assignEach [tg] X.env).map (·.2) = [assign tg X.env]) : PS X (.Assign [tg] e pos) (tSf G fun ρ S => (fe ρ S).bind fun x => match x.1 with | .lst ds => (putVs ρ is ds).map fun ρ1 => .nx ρ1 x.2 | _ => none) := by
  refine ps_len (ps_asg he hg (sole_false hn _ _) (stores_none ht _) h1) fun D σ H hs h => ?_
  obtain ⟨M, S, ρ, r, rl, en, h, k⟩ := h
  obtain ⟨⟨x1, x2⟩, hx, h⟩ := Option.bind_eq_some_iff.mp h
  cases x1 with
  | lst ds =>
    obtain ⟨ρ1, hρ, h⟩ := Option.map_eq_some_iff.mp (show (putVs ρ is ds).map (fun ρ1 => Fl.nx ρ1 x2) = some r from h)
    subst h
    refine tEf.mk rl en hx fun v M1 H1 r1 q1 p1 => ?_
    have e1 := en.ext q1
    obtain ⟨q, vs, ev, s, t⟩ := p1
    refine ⟨q, vs, ev, SqL.of (r1.sub _ _ s), by rw [← t.length]; exact putVs_len hρ, own_putVs e1 t (fun i z => by rw [e1.len, hs]; exact hi i z) hρ fun σ' e' ow => k σ' M1 H1 r1 (q1.toS.less ow) e'⟩
  | _ => exact nn h
/-- a name op= e -/
def gAug (op : BOp) : Store → D → D → Option D := fun _ a b => augD op a b
theorem aug_rule {op : BOp} {o : Operator} (h : bopB op o = true) : ∃ r, OpR X (inplaceOp o) r ∧ R2ok G (gAug op) r := by
  cases op with
  | add =>
    cases o <;> first | exact nb h | skip
    refine ⟨_, OpR.or iop_add iop_add_str, ?_⟩
    intro M S H x y a b d Q r ra rb h k
    have h' : augD .add a b = some d := h
    cases a <;> cases b <;> first | exact nn h' | skip
    · rename_i i j
      cases ra
      cases rb
      refine .inl ⟨i, j, rfl, rfl, k _ M H r .refl ?_⟩
      rw [← Option.some.inj h']
      rfl
    · rename_i i j
      obtain ⟨e1, o1, l1⟩ := ra
      obtain ⟨e2, o2, l2⟩ := rb
      have h2 : (if szOk (i.length + j.length) then some (D.str (i ++ j)) else none) = some d := h'
      split at h2
      · rename_i c
        refine .inr ⟨i, j, e1, e2, szOk_le c, k _ M H r .refl ?_⟩
        rw [← Option.some.inj h2]
        exact ⟨rfl, strOk_app o1 o2, by rw [str_app_len]; exact of_decide_eq_true c⟩
      · cases h2
  | sub =>
    cases o <;> first | exact nb h | skip
    refine ⟨_, iop_sub, ok_int0 (fd := fun i j => .int (i - j)) (fun S a b d h => ?_) fun _ _ _ _ => rfl⟩
    cases a <;> cases b <;> first | exact nn h | skip
    rename_i i j
    exact ⟨i, j, rfl, rfl, (Option.some.inj h).symm⟩
  | _ => exact ⟨_, opR_never, fun M S H x y a b d Q r ra rb h k => by
      cases a <;> cases b <;> exact nn h⟩
theorem p_aug {i : Nat} {x : Str} {op : BOp} {o : Operator} {e : Expr} {fe : Env → Store → Option (D × Store)} {pos pos' : Pos} (hN : X.N.Nodup) (hi : X.N[i]? = some x) (hx : Loc X.env.scope x) (he : PE X e (tEf G fe)) (ho : bopB op o = true) (hf : X.fn x = true ∨ X.env.scope.names.lookup x = some .local) :
    PS X (.AugAssign (.Name x pos') o e pos) (tSf G fun ρ S => (getV ρ i).bind fun d => (fe ρ S).bind fun x => (augD op d x.1).map fun r => .nx (putV ρ i r) x.2) := by
  obtain ⟨r, h1, h2⟩ := aug_rule (X := X) (G := G) ho
  refine ps_len (ps_aug hN hi hx he h1 hf) fun D σ H hs h => ?_
  obtain ⟨M, S, ρ, fl, rl, en, h, k⟩ := h
  obtain ⟨d, hd, h⟩ := Option.bind_eq_some_iff.mp h
  obtain ⟨y, hy, h⟩ := Option.bind_eq_some_iff.mp h
  obtain ⟨z, hz, h⟩ := Option.map_eq_some_iff.mp h
  subst h
  obtain ⟨v, v1, v2⟩ := en.getV hd
  refine ⟨v, v1, tEf.mk rl en hy fun w M1 H1 r1 x1 p1 => ?_⟩
  refine h2 M1 y.2 H1 v w d y.1 z _ r1 (v2.up x1.up) p1 hz fun u M2 H2 r2 x2 p2 => ?_
  have e2 := (en.ext x1).ext x2
  exact k (σ.set i (some u)) M2 H2 r2 ((x1.trans x2).toS.less fun p q => own_put q e2.len) (e2.putV (by rw [e2.len, hs]; exact len_of hi) p2)

/-! ### own lists -/
theorem own_touch {i : Nat} {l l' : List D} {p : Addr} {vs' : List V} {M : Mp} {S : Store} {H : Hp} {σ : L2.St} {ρ : Env} (rl : Rel G M S H) (en : EnvR G M S H σ ρ) (h0 : ρ[i]? = some (.own l)) (h1 : σ[i]? = some (some (.ref p))) (h4 : M.F p = none) (h5 : ∀ a, a < S.length → M.m a ≠ p) (t : RpL G M S.length l' vs') :
    Rel G M S (upd H p (.lst vs')) ∧ ExtS M S H σ ρ M S (upd H p (.lst vs')) σ (ρ.set i (.own l')) ∧ EnvR G M S (upd H p (.lst vs')) σ (ρ.set i (.own l')) := by
  have hi : i < ρ.length := (List.getElem?_eq_some_iff.mp h0).1
  have back : ∀ (j : Nat) (k : List D), (ρ.set i (.own l'))[j]? = some (.own k) → ∃ k', ρ[j]? = some (.own k') := fun j k hj => by
    by_cases e : i = j
    · subst e; exact ⟨l, h0⟩
    · rw [List.getElem?_set_ne e] at hj; exact ⟨k, hj⟩
  refine ⟨rel_chg rl h4 h5, ⟨.refl, fun q o g1 g2 g3 g4 => ⟨?_, g2, g3, fun z => ?_⟩⟩, ?_⟩
  · rw [upd_ne fun z => g4 ⟨i, l, h0, by rw [h1, z]⟩]; exact g1
  · obtain ⟨j, k, z1, z2⟩ := z
    obtain ⟨k', z3⟩ := back j k z1
    exact g4 ⟨j, k', z3, z2⟩
  · refine ⟨by rw [List.length_set]; exact en.len, fun j s hj => ?_, fun j k l1 l2 q g1 g2 g3 g4 => ?_⟩
    · by_cases e : i = j
      · subst e
        rw [List.getElem?_set_self hi] at hj
        cases hj
        exact ⟨p, vs', h1, upd_same, t, h4, h5⟩
      · rw [List.getElem?_set_ne e] at hj
        have z := en.sl j s hj
        cases s with
        | un => exact True.intro
        | val d => exact z
        | own k =>
          obtain ⟨q, us, z1, z2, z3, z4, z5⟩ := z
          exact ⟨q, us, z1, by rw [upd_ne fun w => e (en.ap i j l k p h0 hj h1 (by rw [z1, w]))]; exact z2, z3, z4, z5⟩
    · obtain ⟨k1, y1⟩ := back j l1 g1
      obtain ⟨k2, y2⟩ := back k l2 g2
      exact en.ap j k k1 k2 q y1 y2 g3 g4
variable {x : Str} {apos cpos spos px : Pos}
theorem few1 {e : Expr} {env : PySem.Env} (hs : notStar e = true) : ((backTo cpos (starEach [e] env)).all (fun x => !x.1) && (backToKw cpos (keywordEach [] env)).all (fun x => x.1.isSome)
      && decide (([e] : List Expr).length + ([] : List Keyword).length + (if ([] : List Keyword).isEmpty then 0 else 1) < 30)) = true := by
  rw [star_cons hs]
  rfl
/-- v.append(e), v a name's own list -/
theorem p_appOwn {v : Nat} {e : Expr} {fe : Env → Store → Option (D × Store)} (hN : X.N[v]? = some x) (hv : Vis X.env.scope x) (hd : (x == ("__debug__" : Str)) = false) (hcd : (x == ("__classdict__" : Str)) = false) (he : PE X e (tEf G fe)) (hs : notStar e = true) (hl : (apos.endLine == cpos.line) = true) :
    PS X (.Expr (.Call (.Attribute (.Name x px) "append" apos) [e] [] cpos) spos) (tSf G fun ρ S => (fe ρ S).bind fun x => (getO ρ v).bind fun l => if decide (l.length < 16777216) then some (.nx (ρ.set v (.own (l ++ [x.1]))) x.2) else none) := by
  refine ps_weak (ps_expr (pe_bm PySem.F.plainAttrs_list PySem.F.slot_list_append PySem.F.type_list_append mt_append (pe_var hN hv hd hcd) (pa_cons he pa_nil (star_cons hs)) rfl (few1 hs) hl (star_cons hs) (plain_any rfl)) (sw_false rfl _ _ _)) fun D σ H h => ?_
  obtain ⟨M, S, ρ, fl, rl, en, h, k⟩ := h
  obtain ⟨y, hy, h⟩ := Option.bind_eq_some_iff.mp h
  obtain ⟨l, hl, h⟩ := Option.bind_eq_some_iff.mp h
  split at h
  · rename_i c
    cases h
    obtain ⟨h0, p, vs, h1, h2, h3, h4, h5⟩ := en.getO hl
    refine ⟨.ref p, h1, .inl ⟨rfl, vs, SqL.of h2⟩, tEf.mk rl en hy fun w M1 H1 r1 x1 p1 => ?_⟩
    obtain ⟨q1, q2, q3⟩ := x1.fgn p _ h2 h4 h5
    have hlen := h3.length
    have e1 := en.ext x1
    obtain ⟨z1, z2, z3⟩ := own_touch (l' := l ++ [y.1]) (vs' := vs ++ [w]) r1 e1 h0 h1 q2 q3 ((h3.up x1.up).append (RpL.cons p1 RpL.nil))
    exact ⟨p, vs, w, rfl, rfl, q1, by rw [sizeLine_eq, ← hlen]; exact of_decide_eq_true c, k σ M1 _ z1 (x1.toS.trans z2) z3⟩
  · cases h
/-- v.extend(e) -/
theorem p_extOwn {v : Nat} {e : Expr} {fe : Env → Store → Option (D × Store)} (hN : X.N[v]? = some x) (hv : Vis X.env.scope x) (hd : (x == ("__debug__" : Str)) = false) (hcd : (x == ("__classdict__" : Str)) = false) (he : PE X e (tEf G fe)) (hs : notStar e = true) (hl : (apos.endLine == cpos.line) = true) :
    PS X (.Expr (.Call (.Attribute (.Name x px) "extend" apos) [e] [] cpos) spos) (tSf G fun ρ S => (fe ρ S).bind fun x => (getO ρ v).bind fun l => match x.1 with | .lst ds => if szOk (l.length + ds.length) then some (.nx (ρ.set v (.own (l ++ ds))) x.2) else none | _ => none) := by
  refine ps_weak (ps_expr (pe_bm PySem.F.plainAttrs_list PySem.F.slot_list_extend PySem.F.type_list_extend mt_extend (pe_var hN hv hd hcd) (pa_cons he pa_nil (star_cons hs)) rfl (few1 hs) hl (star_cons hs) (plain_any rfl)) (sw_false rfl _ _ _)) fun D σ H h => ?_
  obtain ⟨M, S, ρ, fl, rl, en, h, k⟩ := h
  obtain ⟨⟨y1, y2⟩, hy, h⟩ := Option.bind_eq_some_iff.mp h
  obtain ⟨l, hl, h⟩ := Option.bind_eq_some_iff.mp h
  cases y1 with
  | lst ds =>
    have h : (if szOk (l.length + ds.length) then some (Fl.nx (ρ.set v (.own (l ++ ds))) y2) else none) = some fl := h
    split at h
    · rename_i c
      cases h
      obtain ⟨h0, p, vs, h1, h2, h3, h4, h5⟩ := en.getO hl
      refine ⟨.ref p, h1, .inl ⟨rfl, vs, SqL.of h2⟩, tEf.mk rl en hy fun w M1 H1 r1 x1 p1 => ?_⟩
      obtain ⟨q1, q2, q3⟩ := x1.fgn p _ h2 h4 h5
      obtain ⟨b, us, e2, s2, t2⟩ := p1
      have hlen := h3.length
      have hlen2 := t2.length
      have e1 := en.ext x1
      obtain ⟨z1, z2, z3⟩ := own_touch (l' := l ++ ds) (vs' := vs ++ us) r1 e1 h0 h1 q2 q3 ((h3.up x1.up).append t2)
      exact ⟨p, b, vs, us, rfl, by rw [e2], q1, r1.sub _ _ s2, by rw [← hlen, ← hlen2]; exact szOk_le c, k σ M1 _ z1 (x1.toS.trans z2) z3⟩
    · cases h
  | _ => exact nn h
/-- i = v.pop() -/
theorem p_popOwn {i v : Nat} {y : Str} {py : Pos} (hND : X.N.Nodup) (hNi : X.N[i]? = some y) (hy : Loc X.env.scope y) (hf : X.fn y = true ∨ X.env.scope.names.lookup y = some .local) (hN : X.N[v]? = some x) (hv : Vis X.env.scope x) (hd : (x == ("__debug__" : Str)) = false) (hcd : (x == ("__classdict__" : Str)) = false) (hl : (apos.endLine == cpos.line) = true) :
    PS X (.Assign [.Name y py] (.Call (.Attribute (.Name x px) "pop" apos) [] [] cpos) spos) (tSf G fun ρ S => (getO ρ v).bind fun l => (l[l.length - 1]?).map fun d => .nx (putV (ρ.set v (.own l.dropLast)) i d) S) := by
  refine ps_len (ps_set hND hNi hy (pe_bm0 PySem.F.plainAttrs_list PySem.F.slot_list_pop PySem.F.type_list_pop mt_pop (pe_var hN hv hd hcd) rfl hl) (sw_false rfl _ _ _) hf) fun D σ H hs h => ?_
  obtain ⟨M, S, ρ, fl, rl, en, h, k⟩ := h
  obtain ⟨l, hl, h⟩ := Option.bind_eq_some_iff.mp h
  obtain ⟨d, hd, h⟩ := Option.map_eq_some_iff.mp h
  subst h
  obtain ⟨h0, p, vs, h1, h2, h3, h4, h5⟩ := en.getO hl
  have hlen := h3.length
  rw [hlen] at hd
  obtain ⟨w, w1, w2⟩ := h3.get hd
  obtain ⟨z1, z2, z3⟩ := own_touch (l' := l.dropLast) (vs' := vs.dropLast) rl en h0 h1 h4 h5 h3.dropLast
  refine ⟨.ref p, h1, .inl ⟨rfl, vs, SqL.of h2⟩, p, vs, w, rfl, rfl, h2, w1, ?_⟩
  exact k (σ.set i (some w)) M _ z1 (z2.less fun q z => own_put z z3.len) (z3.putV (by rw [z3.len, hs]; exact len_of hNi) w2)

/-! ### choices and loops -/
theorem p_ite {c : Expr} {a b : List Stmt} {fc : Env → Store → Option (Bool × Store)} {fa fb : Env → Store → Option Fl} {pos : Pos} (hc : PT X c (tTf G fc)) (ha : PSs X a (tSf G fa)) (hb : PSs X b (tSf G fb)) :
    PS X (.If c a b pos) (tSf G fun ρ S => (fc ρ S).bind fun x => if x.1 then fa ρ x.2 else fb ρ x.2) := by
  refine ps_weak (ps_if hc ha hb) fun D σ H h => ?_
  obtain ⟨M, S, ρ, r, rl, en, h, k⟩ := h
  obtain ⟨⟨b1, S1⟩, hx, h⟩ := Option.bind_eq_some_iff.mp h
  refine tTf.mk rl en hx fun M1 H1 r1 x1 => ?_
  have e1 := en.ext x1
  have go : ∀ f : Env → Store → Option Fl, f ρ S1 = some r → tSf G f D σ H1 := fun f hf => by
    cases r with
    | nx ρ2 S2 => exact tSf.nx r1 e1 hf fun σ2 M2 H2 r2 x2 e2 => k σ2 M2 H2 r2 (x1.toS.trans x2) e2
    | rt d S2 => exact tSf.rt r1 e1 hf fun v M2 H2 r2 x2 p2 => k v M2 H2 r2 (x1.toS.toR x2) p2
  cases b1 with
  | true => exact iteT (go fa h)
  | false => exact iteF (go fb h)
/-- behind a block the slots are as many as the names -/
theorem pss_end {st : List Stmt} {t : TS} (h : PSs X st t) : PSs X st (fun D σ H => t { D with nx := fun σ' H' => σ'.length = X.N.length → D.nx σ' H' } σ H) := ⟨fun pins s σ H D I q => thn (h.run pins s σ H _ I q) fun f s' z => by
  cases f with
  | next =>
    obtain ⟨σ', H', I', z⟩ := z
    exact ⟨σ', H', I', z I'.len⟩
  | brk => exact z
  | cont => exact z
  | ret u => exact z⟩
theorem p_for {tgt iter : Expr} {body : List Stmt} {one : Bool} {tg : List Nat} {fi : Env → Store → Option ((List D × Option (Nat × List D)) × Store)} {fb : Env → Store → Option Fl} {pos : Pos} (hK : X.K = G.K) (hp : PassesOwn (model X.prog X.w) X.A X.env X.xe) (hc : X.calm = true) (hi : PIf X G tgt iter fi)
    (hg : PG X tgt (gOf X.K one tg)) (hN : ∀ i ∈ tg, i < X.N.length) (hb : PSs X body (tSf G fb)) (hs : ∀ x, foldedSetIterable iter X.env x = pure x) :
    PS X (.For tgt iter body [] pos) (tSf G fun ρ S => (fi ρ S).bind fun w => forD (turnF one tg w.1.2 fb) w.1.1 ρ w.2) := by
  obtain ⟨wi, pi, ri⟩ := hi.ex
  refine ps_len (ps_for hp hc pi hg (pss_end hb) hs) fun D σ H hl h => ?_
  obtain ⟨M, S, ρ, r, rl, en, h, k⟩ := h
  obtain ⟨⟨w, S0⟩, hw, h⟩ := Option.bind_eq_some_iff.mp h
  have h : forD (turnF one tg w.2 fb) w.1 ρ S0 = some r := h
  refine ri σ H _ M S ρ w S0 rl en hw fun J M0 H0 r0 x0 io kp => ?_
  refine ⟨fun i m σ1 H1 => m = w.1.length - i ∧ i ≤ w.1.length ∧ σ1.length = σ.length ∧ ∃ (M1 : Mp) (S1 : Store) (ρ1 : Env), Rel G M1 S1 H1 ∧ ExtS M S H σ ρ M1 S1 H1 σ1 ρ1 ∧ EnvR G M1 S1 H1 σ1 ρ1 ∧ Up M0 M1 S0.length S1.length ∧ keptP w.2 S1 ∧ forD (turnF one tg w.2 fb) (w.1.drop i) ρ1 S1 = some r,
    ⟨_, rfl, Nat.zero_le _, rfl, M0, S0, ρ, r0, x0.toS, en.ext x0, .refl, kp, h⟩, ?_⟩
  rintro i m σ1 H1 ⟨rfl, hi, hl1, M1, S1, ρ1, r1, x1, e1, up, kp1, hf⟩
  obtain ⟨io1, io2, io3⟩ := io M1 S1 H1 r1 up kp1 i
  by_cases hlt : i < w.1.length
  · rw [List.drop_eq_getElem_cons hlt] at hf
    obtain ⟨q, hq, hf⟩ := Option.bind_eq_some_iff.mp (show (turnF one tg w.2 fb w.1[i] ρ1 S1).bind _ = _ from hf)
    obtain ⟨ρ2, hρ, hq⟩ := Option.bind_eq_some_iff.mp (show (putT ρ1 one tg w.1[i]).bind _ = _ from hq)
    obtain ⟨q', hq', hq⟩ := Option.bind_eq_some_iff.mp hq
    refine .inr ⟨io1 hlt, fun σ' H' => i + 1 ≤ w.1.length ∧ σ'.length = σ.length ∧ ∃ (M1 : Mp) (S1 : Store) (ρ1 : Env), Rel G M1 S1 H' ∧ ExtS M S H σ ρ M1 S1 H' σ' ρ1 ∧ EnvR G M1 S1 H' σ' ρ1 ∧ Up M0 M1 S0.length S1.length ∧ keptP w.2 S1 ∧ forD (turnF one tg w.2 fb) (w.1.drop (i + 1)) ρ1 S1 = some r,
      fun σ' H' z => ⟨w.1.length - (i + 1), by omega, rfl, z⟩, fun v H' hy => ?_⟩
    obtain ⟨M2, r2, x2, p2⟩ := io3 v H' _ (List.getElem?_eq_getElem hlt) hy
    have e2 := e1.ext x2
    rw [hK]
    refine own_putT r2 e2 p2 (fun j hj => by rw [e2.len, hl1, hl]; exact hN j hj) hρ fun σ3 e3 ow => ?_
    have x3 : ExtS M S H σ ρ M2 S1 H' σ3 ρ2 := (x1.trans x2.toS).less ow
    cases q' with
    | nx ρ4 S4 =>
      have hq : (if keptD w.2 S4 then some (Fl.nx ρ4 S4) else none) = some q := hq
      split at hq
      · rename_i ck
        cases hq
        exact tSf.nx r2 e3 hq' fun σ5 M5 H5 r5 x5 e5 z5 => ⟨hlt, by rw [z5, hl], M5, S4, ρ4, r5, x3.trans x5, e5, (up.trans x2.up).trans x5.up, keptD_iff.mp ck, hf⟩
      · cases hq
    | rt d S4 =>
      have hq := Option.some.inj (show some (Fl.rt d S4) = some q from hq)
      subst hq
      have hf := Option.some.inj (show some (Fl.rt d S4) = some r from hf)
      subst hf
      exact tSf.rt r2 e3 hq' fun v M5 H5 r5 x5 p5 => k v M5 H5 r5 (x3.toR x5) p5
  · have e : i = w.1.length := by omega
    subst e
    rw [List.drop_length] at hf
    have hf := Option.some.inj (show some (Fl.nx ρ1 S1) = some r from hf)
    subst hf
    exact .inl ⟨io2 (Nat.le_refl _), k σ1 M1 H1 r1 x1 e1⟩
/-- while -/
theorem p_while {c : Expr} {body : List Stmt} {fc : Env → Store → Option (Bool × Store)} {fb : Env → Store → Option Fl} {pos : Pos} (hp : PassesOwn (model X.prog X.w) X.A X.env X.xe) (hc : PT X c (tTf G fc)) (hb : PSs X body (tSf G fb)) :
    PS X (.While c body [] pos) (tSf G fun ρ S => whileD (turnW fc fb) (ρ, S)) := by
  refine ps_weak (ps_while hp hc hb) fun D σ H h => ?_
  obtain ⟨M, S, ρ, r, rl, en, h, k⟩ := h
  generalize hT : turnW fc fb = T at h
  obtain ⟨n, hn⟩ := whileD_some h
  refine ⟨fun m σ1 H1 => ∃ (M1 : Mp) (S1 : Store) (ρ1 : Env), Rel G M1 S1 H1 ∧ ExtS M S H σ ρ M1 S1 H1 σ1 ρ1 ∧ EnvR G M1 S1 H1 σ1 ρ1 ∧ runN T m (ρ1, S1) = some r, ⟨n, M, S, ρ, rl, .refl, en, hn⟩, ?_⟩
  rintro m σ1 H1 ⟨M1, S1, ρ1, r1, x1, e1, hr⟩
  cases m with
  | zero => exact nn hr
  | succ m =>
    obtain ⟨q, hq, hr⟩ := Option.bind_eq_some_iff.mp (show (T (ρ1, S1)).bind _ = some r from hr)
    rw [← hT] at hq
    obtain ⟨⟨b, S2⟩, hb2, hq⟩ := Option.bind_eq_some_iff.mp hq
    refine tTf.mk r1 e1 hb2 fun M2 H2 r2 x2 => ?_
    have e2 := e1.ext x2
    have x3 := x1.trans x2.toS
    cases b with
    | true =>
      obtain ⟨fl, hfl, hq⟩ := Option.map_eq_some_iff.mp (show (fb ρ1 S2).map flS = some q from hq)
      refine iteT ⟨fun σ' H' => ∃ (M1 : Mp) (S1 : Store) (ρ1 : Env), Rel G M1 S1 H' ∧ ExtS M S H σ ρ M1 S1 H' σ' ρ1 ∧ EnvR G M1 S1 H' σ' ρ1 ∧ runN T m (ρ1, S1) = some r, fun σ' H' z => ⟨m, Nat.lt_succ_self _, z⟩, ?_⟩
      cases fl with
      | nx ρ4 S4 =>
        subst hq
        exact tSf.nx r2 e2 hfl fun σ5 M5 H5 r5 x5 e5 => ⟨M5, S4, ρ4, r5, x3.trans x5, e5, hr⟩
      | rt d S4 =>
        subst hq
        have hr := Option.some.inj (show some (Fl.rt d S4) = some r from hr)
        subst hr
        exact tSf.rt r2 e2 hfl fun v M5 H5 r5 x5 p5 => k v M5 H5 r5 (x3.toR x5) p5
    | false =>
      have hq := Option.some.inj (show some (Sum.inr (Fl.nx ρ1 S2)) = some q from hq)
      subst hq
      have hr := Option.some.inj (show some (Fl.nx ρ1 S2) = some r from hr)
      subst hr
      exact iteF (k σ1 M2 H2 r2 x3 e2)
end
end HN

/-! The text is read as HN says: a look at its trees (Bool), and that what passes it does what HN says. -/
namespace HN
open PySem L2

/-- the names of a text -/
structure Tb where
  prg : Prg
  fname : Nat → Str
  params : Nat → List Str
  kwn : Nat → Nat
  isFn : Nat → Bool
  gname : Nat → List Str
  dname : Nat → Str

def visB (sc : Scope) (x : Str) : Bool := match sc.names.lookup x with
  | some .local => true
  | some .cell => true
  | some .free => true
  | _ => false
def locB (sc : Scope) (x : Str) : Bool := match sc.names.lookup x with
  | some .local => true
  | some .cell => true
  | _ => false
def lclB (sc : Scope) (x : Str) : Bool := match sc.names.lookup x with
  | some .local => true
  | _ => false
def glB (sc : Scope) (x : Str) : Bool := (match sc.names.lookup x with
  | some .globalImplicit => true
  | _ => false) && !(x == ("__debug__" : Str))
def nmB (x : Str) : Bool := !(x == ("__debug__" : Str)) && !(x == ("__classdict__" : Str))
def varB (N : List Str) (sc : Scope) (i : Nat) (x : Str) : Bool := decide (N[i]? = some x) && visB sc x && nmB x
def biName : Bi → Str
  | .len => "len" | .abs => "abs" | .int => "int" | .str => "str" | .repr => "repr" | .max1 => "max" | .max0 => "max" | .max2 => "max" | .sum => "sum" | .tuple => "tuple" | .list => "list" | .all => "all"
  | .isTuple => "isinstance" | .isStr => "isinstance" | .isInt => "isinstance" | .isBool => "isinstance" | .isList => "isinstance"
/-- the class that isinstance asks -/
def isTy : Bi → Option String
  | .isTuple => some "tuple" | .isStr => some "str" | .isInt => some "int" | .isBool => some "bool" | .isList => some "list"
  | _ => none
def isM0 : Bi → Bool
  | .max0 => true
  | _ => false
def biSimple : Bi → Bool
  | .max0 => false
  | f => (isTy f).isNone
/-- an expression whose truth is its value's -/
def truForm : Expr → Bool
  | .Name _ _ => true
  | .Call _ _ _ _ => true
  | .Subscript _ _ _ => true
  | .Attribute _ _ _ => true
  | .Constant _ _ _ => true
  | _ => false
def notSet : Expr → Bool
  | .Set _ _ _ => false
  | _ => true
def kwB : List Keyword → List Str → Bool
  | [], [] => true
  | k :: ks, n :: ns => decide (k.arg = some n) && kwB ks ns
  | _, _ => false

/-- a part that may be left out -/
def mOq (b : Bool) (f : Expr → Bool) : Option Expr → Bool
  | none => b
  | some e => !b && f e
mutual
def mE (T : Tb) (N : List Str) (sc : Scope) : E → Expr → Bool
  | .var i, e => (match e with | .Name x _ => varB N sc i x | _ => false)
  | .int i, e => (match e with | .Constant (.int j) _ _ => decide (i = j) | _ => false)
  | .str s, e => (match e with | .Constant (.str t) _ _ => decide (s = t) && PyData.strOk s && decide (s.length ≤ 16777216) | _ => false)
  | .bl b, e => (match e with | .Constant (.bool c) _ _ => decide (b = c) | _ => false)
  | .non, e => (match e with | .Constant .none _ _ => true | _ => false)
  | .glob g, e => (match e with | .Name x _ => (T.gname g).contains x && glB sc x | _ => false)
  | .bin op a b, e => (match e with | .BinOp l o r _ => bopB op o && mE T N sc a l && mE T N sc b r | _ => false)
  | .neg a, e => (match e with | .UnaryOp .USub x _ => mE T N sc a x | _ => false)
  | .cmp op a b, e => (match e with | .Compare l [o] [r] _ => copB op o && mE T N sc a l && mE T N sc b r && notSet r | _ => false)
  | .chain op op' a b c, e => (match e with | .Compare l [o, o'] [m, r] _ => copB op o && copB op' o' && mE T N sc a l && mE T N sc b m && mE T N sc c r && notSet r | _ => false)
  | .and es, e => (match e with | .BoolOp .And vs _ => mEs T N sc es vs | _ => false)
  | .or es, e => (match e with | .BoolOp .Or vs _ => mEs T N sc es vs | _ => false)
  | .not a, e => (match e with | .UnaryOp .Not x _ => mE T N sc a x | _ => false)
  | .ite c a b, e => (match e with | .IfExp t x y _ => mE T N sc c t && mE T N sc a x && mE T N sc b y | _ => false)
  | .call f es, e => (match e with | .Call (.Name x _) args [] _ => decide (x = T.fname f) && T.isFn f && decide (T.kwn f = 0) && glB sc x && mEs T N sc es args | _ => false)
  | .callK f es ks, e => (match e with | .Call (.Name x _) (a :: args) kws _ => decide (x = T.fname f) && T.isFn f && decide (T.kwn f ≠ 0) && glB sc x && mEs T N sc es (a :: args) && mKs T N sc ks kws && kwB kws ((T.params f).drop ((T.params f).length - T.kwn f)) | _ => false)
  | .idx a b, e => (match e with | .Subscript x y _ => notSlice y && mE T N sc a x && mE T N sc b y | _ => false)
  | .slice a lo hi, e => (match e with | .Subscript x (.Slice l h none _) _ => mE T N sc a x && mOq (isAbs lo) (mE T N sc lo) l && mOq (isAbs hi) (mE T N sc hi) h | _ => false)
  | .rev a, e => (match e with | .Subscript x (.Slice none none (some (.UnaryOp .USub (.Constant (.int 1) _ _) _)) _) _ => mE T N sc a x | _ => false)
  | .tup es, e => (match e with | .Tuple xs _ _ => mEs T N sc es xs | _ => false)
  | .frz l, e => mL T N sc l e
  | .shr l, e => mL T N sc l e
  | .bi f es, e => (match e with | .Call (.Name x _) args [] _ => decide (x = biName f) && glB sc x && biSimple f && !args.isEmpty && mEs T N sc es args | _ => false)
  | .isi f m, e => (match e with | .Call (.Name x _) [a, .Name y _] [] _ => decide (x = biName f) && glB sc x && decide (some y = (isTy f).map Str.ofString) && glB sc y && notStar a && mE T N sc m a | .Call (.Name x _) [a] [⟨some d, .Constant (.int z) _ _, _⟩] _ => isM0 f && decide (x = ("max" : Str)) && decide (d = ("default" : Str)) && decide (z = 0) && glB sc x && notStar a && mE T N sc m a | _ => false)
  | .lenOwn i, e => (match e with | .Call (.Name x _) [.Name y _] [] _ => decide (x = ("len" : Str)) && glB sc x && varB N sc i y | _ => false)
  | .idxOwn i b, e => (match e with | .Subscript (.Name y _) z _ => notSlice z && varB N sc i y && mE T N sc b z | _ => false)
  | .truOwn i, e => (match e with | .Name y _ => varB N sc i y | _ => false)
  | .dict0, e => (match e with | .Dict [] [] _ => true | _ => false)
  | .dictN, e => (match e with | .Dict [] [] _ => true | _ => false)
  | .gdict g a, e => (match e with | .Subscript (.Name x _) y _ => decide (x = T.dname g) && glB sc x && notSlice y && mE T N sc a y | _ => false)
  | _, _ => false
def mEs (T : Tb) (N : List Str) (sc : Scope) : Es → List Expr → Bool
  | .nil, es => es.isEmpty
  | .cons m ms, es => (match es with | e :: r => notStar e && mE T N sc m e && mEs T N sc ms r | [] => false)
def mKs (T : Tb) (N : List Str) (sc : Scope) : Es → List Keyword → Bool
  | .nil, es => es.isEmpty
  | .cons m ms, es => (match es with | k :: r => mE T N sc m k.value && mKs T N sc ms r | [] => false)
def mL (T : Tb) (N : List Str) (sc : Scope) : Lx → Expr → Bool
  | .disp es, e => (match e with | .List xs _ => mEs T N sc es xs | _ => false)
  | .comp tg one it ifs elt, e => (match e with
    | .ListComp x [⟨t, i, fs, 0⟩] s _ => blkC N sc s (tg.map fun j => (N.getD j "", j)) && tgOk N (lclB s) one tg t && mI T N sc one it i && mEs T N (relS s sc) ifs fs && mE T N (relS s sc) elt x && notSet i
    | _ => false)
def mI (T : Tb) (N : List Str) (sc : Scope) (one : Bool) : It → Expr → Bool
  | .e m, e => mE T N sc m e
  | .range1 a, e => (match e with | .Call (.Name x _) [p] [] _ => decide (x = ("range" : Str)) && glB sc x && notStar p && mE T N sc a p | _ => false)
  | .range2 a b, e => (match e with | .Call (.Name x _) [p, q] [] _ => decide (x = ("range" : Str)) && glB sc x && notStar p && notStar q && mE T N sc a p && mE T N sc b q | _ => false)
  | .rev a, e => (match e with | .Call (.Name x _) [p] [] _ => decide (x = ("reversed" : Str)) && glB sc x && notStar p && mE T N sc a p | _ => false)
  | .zip a b, e => (match e with | .Call (.Name x _) [p, q] [] _ => !one && decide (x = ("zip" : Str)) && glB sc x && notStar p && notStar q && mE T N sc a p && mE T N sc b q | _ => false)
end

/-! ### what a text must be known for -/
def biAll : List Str := ["len", "abs", "int", "str", "max", "sum", "tuple", "list", "all", "isinstance", "bool", "range", "reversed", "zip", "repr"]
structure Facts (T : Tb) (G : Gx) (P : Program) (w : World) (mg : Str → Option Value) (base : Heap) (n : Nat) (call : CallF) : Prop where
  fn : ∀ f, T.isFn f = true → ∃ fa fd, mg (T.fname f) = some (.ref fa) ∧ PySem.W.keepIn G.K (.ref fa) = true ∧ FnG P w G.K mg base n fa fd (T.params f) (spF G (T.params f).length (call f)) ∧
    (T.kwn f = 0 → Binds G.K fd (T.params f) []) ∧ (T.kwn f ≠ 0 → KBinds G.K fd (T.params f) ((T.params f).drop ((T.params f).length - T.kwn f)) (kwG ((T.params f).drop ((T.params f).length - T.kwn f)).length) (kwG ((T.params f).drop ((T.params f).length - T.kwn f)).length))
  len : ∀ f ds S r, call f ds S = some r → ds.length = (T.params f).length
  glob : ∀ g d x, T.prg.glob g = some d → x ∈ T.gname g → ∃ v u, mg x = some u ∧ RelV v u ∧ ∀ (M : Mp) (n : Nat), Rp G M n d v
  gd : ∀ g k d, (T.prg.gdict g).lookup k = some d → ∃ p v, mg (T.dname g) = some (.ref p) ∧ KDct G.K w p k v ∧ ∀ (M : Mp) (n : Nat), Rp G M n d v
  bi : ∀ x ∈ biAll, mg x = none
structure Kx (T : Tb) (G : Gx) (n : Nat) (call : CallF) (X : Cx) (sc : Scope) : Prop where
  K : X.K = G.K
  calm : X.calm = true
  nd : X.N.Nodup
  kind : sc.kind = .function
  sc : X.env.scope = sc
  room : Room n X.A
  gd : X.A.guards = some []
  fc : Facts T G X.prog X.w X.mg X.base n call
section
variable {T : Tb} {G : Gx} {n : Nat} {call mk : CallF} {X : Cx} {sc : Scope}
theorem Kx.hu (k : Kx T G n call X sc) : X.A.units + 65 < cLine := by have := k.room.un; omega
theorem vis_of (k : Kx T G n call X sc) {x : Str} (h : visB sc x = true) : Vis X.env.scope x := by
  rw [k.sc]
  unfold visB at h
  unfold Vis
  split at h <;> first | exact nb h | (rename_i e; rw [e]; simp)
theorem gl_of (k : Kx T G n call X sc) {x : Str} (h : glB sc x = true) : Gl X x ∧ (x == ("__debug__" : Str)) = false := by
  unfold glB at h
  rw [Bool.and_eq_true] at h
  obtain ⟨h1, h2⟩ := h
  refine ⟨?_, by simpa using h2⟩
  show X.env.scope.names.lookup x = _
  rw [k.sc]
  split at h1
  · rename_i e; exact e
  · exact nb h1
theorem var_of (k : Kx T G n call X sc) {i : Nat} {x : Str} (h : varB X.N sc i x = true) : X.N[i]? = some x ∧ Vis X.env.scope x ∧ (x == ("__debug__" : Str)) = false ∧ (x == ("__classdict__" : Str)) = false := by
  unfold varB nmB at h
  simp only [Bool.and_eq_true, decide_eq_true_eq, Bool.not_eq_true'] at h
  exact ⟨h.1.1, vis_of k h.1.2, h.2.1, h.2.2⟩
theorem tru_of {e : Expr} (h : truForm e = true) (env : PySem.Env) : ∀ whole, isTrue e env whole = (do let v ← whole; standAt e.pos; holding [v] (truthy v)) := by
  intro whole
  cases e <;> first | rfl | exact nb h
theorem unmarked {o : CmpOp} {r : Expr} (h : notSet r = true) : behindInMarks o r = false := by
  cases r <;> first | rfl | exact nb h
theorem unmarked2 {o o' : CmpOp} {m r : Expr} (h : notSet r = true) : lastMarks [o, o'] [m, r] = false := by
  show behindInMarks o' r = false
  exact unmarked h
theorem nofold {i : Expr} (h : notSet i = true) (env : PySem.Env) : ∀ x, foldedSetIterable i env x = pure x := by
  intro x
  cases i <;> first | rfl | exact nb h
theorem kwB_len : ∀ {kws : List Keyword} {ns : List Str}, kwB kws ns = true → kws.length = ns.length
  | [], [], _ => rfl
  | [], _ :: _, h => nb h
  | _ :: _, [], h => nb h
  | k :: ks, n :: ns, h => congrArg Nat.succ (kwB_len (Bool.and_eq_true_iff.mp (show (decide (k.arg = some n) && kwB ks ns) = true from h)).2)
theorem kw_facts {pos : Pos} {env : PySem.Env} : ∀ {kws : List Keyword} {ns : List Str}, kwB kws ns = true → (backToKw pos (keywordEach kws env)).all (·.1.isSome) = true ∧ (backToKw pos (keywordEach kws env)).filterMap (·.1) = ns ∧ (backToKw pos (keywordEach kws env)).any (·.1.isNone) = false
  | [], [], _ => ⟨rfl, rfl, rfl⟩
  | [], _ :: _, h => nb h
  | _ :: _, [], h => nb h
  | ⟨nm, v, p⟩ :: ks, n :: ns, h => by
    have h : (decide (nm = some n) && kwB ks ns) = true := h
    rw [Bool.and_eq_true] at h
    have e := of_decide_eq_true h.1
    subst e
    obtain ⟨h1, h2, h3⟩ := kw_facts (pos := pos) (env := env) h.2
    have e : backToKw pos (keywordEach (⟨some n, v, p⟩ :: ks) env) = (some n, do let u ← eval v env; standAt pos; pure u) :: backToKw pos (keywordEach ks env) := rfl
    rw [e]
    refine ⟨?_, ?_, ?_⟩
    · rw [List.all_cons, h1] <;> rfl
    · rw [List.filterMap_cons, h2]
    · rw [List.any_cons, h3] <;> rfl
theorem lclB_of {s sc : Scope} {x : Str} (h : lclB s x = true) : (relS s sc).names.lookup x = some .local := by
  unfold lclB at h
  split at h
  · rename_i e
    exact lookup_relS_keep (by decide) e
  · exact nb h
/-- the context of a comprehension -/
theorem Kx.blk (k : Kx T G n call X sc) (s : Scope) (hs : s.kind = .function) (s0 : Shared) (H : Hp) (C : Addr) (cl : List (Str × Addr)) (fp : List Addr) : Kx T G n call (X.blk s0 H s (compEnvC s cl C X.env) fp) (relS s sc) :=
  ⟨k.K, k.calm, k.nd, hs, by show relS s X.env.scope = _; rw [k.sc], k.room, k.gd, k.fc⟩
end

/-! ### what passes the look does what HN says -/
theorem pe_len {X : Cx} {e : Expr} {t t' : TE} (h : PE X e t) (i : ∀ σ H Q, σ.length = X.N.length → t' σ H Q → t σ H Q) : PE X e t' := ⟨fun pins s σ H Q I q => h.run pins s σ H Q I (i _ _ _ I.len q)⟩
theorem pts_weak {X : Cx} {e : List Expr} {t t' : TT} (h : PTs X e t) (i : ∀ σ H Q, t' σ H Q → t σ H Q) : PTs X e t' := ⟨fun pins s σ H Q I q => h.run pins s σ H Q I (i _ _ _ q)⟩
theorem pe_no {X : Cx} {G : Gx} {e : Expr} : PE X e (tEf G fun _ _ => none) := ⟨fun _ _ _ _ _ _ h => by obtain ⟨M, S, ρ, d, S', _, _, h, _⟩ := h; cases h⟩
theorem pl_no {X : Cx} {G : Gx} {e : Expr} : PE X e (tLf G fun _ _ => none) := ⟨fun _ _ _ _ _ _ h => by obtain ⟨M, S, ρ, d, S', _, _, h, _⟩ := h; cases h⟩
theorem pw_no {X : Cx} {G : Gx} {e : Expr} : PW X e (tTf G fun _ _ => none) := ⟨fun _ _ _ _ _ _ _ h => by obtain ⟨M, S, ρ, d, S', _, _, h, _⟩ := h; cases h⟩
theorem pt_no {X : Cx} {G : Gx} {e : Expr} : PT X e (tTf G fun _ _ => none) := ⟨fun _ _ _ _ _ _ h => by obtain ⟨M, S, ρ, d, S', _, _, h, _⟩ := h; cases h⟩
theorem pts_no {X : Cx} {G : Gx} {e : List Expr} : PTs X e (tTf G fun _ _ => none) := ⟨fun _ _ _ _ _ _ h => by obtain ⟨M, S, ρ, d, S', _, _, h, _⟩ := h; cases h⟩
section
variable {T : Tb} {G : Gx} {n : Nat} {call mk : CallF} {X : Cx} {sc : Scope}
theorem bi_fact (k : Kx T G n call X sc) {x : Str} (h : x ∈ biAll) : X.mg x = none := k.fc.bi x h
/-- a simple built-in function -/
theorem bi_rule (k : Kx T G n call X sc) {f : Bi} {x : Str} {p pos : Pos} {e : Expr} {es : List Expr} {fs : Env → Store → Option (List D × Store)} (hf : biSimple f = true) (hx : x = biName f) (hg : glB sc x = true) (ha : PA X (e :: es) (tAf G fs)) (hs : notStar e = true) (hss : es.all notStar = true) :
    PE X (.Call (.Name x p) (e :: es) [] pos) (tEf G fun ρ S => (fs ρ S).bind fun x => (biD x.2 f x.1).map fun d => (d, x.2)) := by
  obtain ⟨g1, g2⟩ := gl_of k hg
  have hK := k.K
  have hm : X.mg x = none := by
    subst hx
    refine k.fc.bi _ ?_
    cases f <;> decide +kernel
  subst hx
  cases f with
  | len => exact s_biB (ok_len) (by rw [← hK]; exact call_len) g1 hm PySem.boot_len ha (by decide) g2 hs hss
  | abs => exact s_biB ok_abs call_abs g1 hm (by decide +kernel) ha (by decide) g2 hs hss
  | int => exact s_biT ok_int1 call_int1 g1 hm (by decide +kernel) ha (by decide) g2 hs hss
  | str => exact s_biT ok_str1 call_str_int g1 hm (by decide +kernel) ha (by decide) g2 hs hss
  | max1 => exact s_biB ok_max1 (by rw [← hK]; exact cr_max k.calm) g1 hm (by decide +kernel) ha (by decide) g2 hs hss
  | max2 => exact s_biB ok_max2 (call_max2 k.calm) g1 hm (by decide +kernel) ha (by decide) g2 hs hss
  | sum => exact s_biB ok_sum (by rw [← hK]; exact cr_sum k.calm) g1 hm (by decide +kernel) ha (by decide) g2 hs hss
  | tuple => exact s_biT ok_tuple (by rw [← hK]; exact call_tuple_of) g1 hm (by decide +kernel) ha (by decide) g2 hs hss
  | repr => exact s_biB ok_repr (by rw [← hK]; exact cr_repr k.gd k.hu) g1 hm (by decide +kernel) ha (by decide) g2 hs hss
  | list => exact s_biT ok_list (by rw [← hK]; exact cr_or call_list_of (call_list_dT k.calm)) g1 hm (by decide +kernel) ha (by decide) g2 hs hss
  | all => exact s_biB ok_all (by rw [← hK]; exact cr_all k.calm) g1 hm (by decide +kernel) ha (by decide) g2 hs hss
  | _ => exact nb hf
/-- {} -/
theorem s_dict0 {pos : Pos} : PE X (.Dict [] [] pos) (tEf G fun _ S => some (.dic, S)) := by
  refine pe_weak pe_dnewT fun σ H Q h => ?_
  obtain ⟨M, S, ρ, d, S', rl, en, h, kk⟩ := h
  cases h
  intro p hp
  obtain ⟨r2, x2⟩ := rel_fin (o := .dT []) rl hp
  exact kk _ _ _ r2 x2 ⟨p, rfl, upd_same⟩
/-- {} that changes later -/
theorem s_dictN {pos : Pos} : PE X (.Dict [] [] pos) (tEf G fun _ S => some (.ref S.length, S ++ [.dct []])) := by
  refine pe_weak pe_dnewT fun σ H Q h => ?_
  obtain ⟨M, S, ρ, d, S', rl, en, h, kk⟩ := h
  cases h
  intro p hp
  obtain ⟨r2, x2, e2⟩ := rel_new (o := .dct []) (u := .dT []) rl hp ⟨rfl, by simp⟩ (fun l e => by cases e)
  exact kk _ _ _ r2 x2 ⟨by simp, by rw [e2]⟩
theorem kit_tab (T : String) (hT : T ∈ ["tuple", "str", "int", "bool", "list"]) : ∀ t, t ∈ ["NoneType", "bool", "int", "str", "tuple", "list"] → kitB t T = some (isT T t) := by
  have h : ∀ T ∈ ["tuple", "str", "int", "bool", "list"], ∀ t ∈ ["NoneType", "bool", "int", "str", "tuple", "list"], kitB t T = some (isT T t) := by decide +kernel
  exact h T hT
theorem is_rule (k : Kx T G n call X sc) {f : Bi} {t : String} {x y : Str} {p p2 pos : Pos} {e : Expr} {fe : Env → Store → Option (D × Store)} (hf : isTy f = some t) (hx : x = biName f) (hg : glB sc x = true) (hy : y = (t : Str)) (hg2 : glB sc y = true) (he : PE X e (tEf G fe)) (hs : notStar e = true) :
    PE X (.Call (.Name x p) [e, .Name y p2] [] pos) (tEf G fun ρ S => (fe ρ S).bind fun x => (biD x.2 f [x.1]).map fun d => (d, x.2)) := by
  obtain ⟨g1, _⟩ := gl_of k hg
  obtain ⟨g3, g4⟩ := gl_of k hg2
  have hx2 : x = "isinstance" := by cases f <;> first | exact hx | exact nn hf
  have hm : X.mg x = none := by rw [hx2]; exact k.fc.bi _ (by decide +kernel)
  have fin : ∀ (T : String), T ∈ ["tuple", "str", "int", "bool", "list"] → y = (T : Str) → X.mg y = none → bootBuiltins y = some (.type T) → y ≠ "__name__" → (∀ S d, biD S f [d] = isTD S T d) → PE X (.Call (.Name x p) [e, .Name y p2] [] pos) (tEf G fun ρ S => (fe ρ S).bind fun x => (biD x.2 f [x.1]).map fun d => (d, x.2)) := fun T hT hy hmy hv hn hb => by
    refine pe_weak (s_isinst (T := T) k.K hx2 g1 hm g3 hmy hv hn g4 he hs (kit_tab T hT)) fun σ H Q h => ?_
    obtain ⟨M, S, ρ, d, S', rl, en, h, kk⟩ := h
    refine ⟨M, S, ρ, d, S', rl, en, ?_, kk⟩
    obtain ⟨r, hr, h⟩ := Option.bind_eq_some_iff.mp h
    obtain ⟨z, hz, h⟩ := Option.map_eq_some_iff.mp h
    have hz : biD r.2 f [r.1] = some z := hz
    rw [hb] at hz
    obtain ⟨t, ht, e2⟩ := Option.map_eq_some_iff.mp (show (tyD r.2 r.1).map (fun t => D.bl (isT T t)) = some z from hz)
    refine Option.bind_eq_some_iff.mpr ⟨r, hr, Option.map_eq_some_iff.mpr ⟨t, ht, ?_⟩⟩
    rw [← h, ← e2]
  have mg : y ∈ biAll → X.mg y = none := fun h => k.fc.bi _ h
  cases f <;> first | exact nn hf | skip
  · have e := Option.some.inj hf; subst e; subst hy; exact fin "tuple" (by simp) rfl (mg (by decide +kernel)) (by decide +kernel) (by decide) fun _ _ => rfl
  · have e := Option.some.inj hf; subst e; subst hy; exact fin "str" (by simp) rfl (mg (by decide +kernel)) (by decide +kernel) (by decide) fun _ _ => rfl
  · have e := Option.some.inj hf; subst e; subst hy; exact fin "int" (by simp) rfl (mg (by decide +kernel)) (by decide +kernel) (by decide) fun _ _ => rfl
  · have e := Option.some.inj hf; subst e; subst hy; exact fin "bool" (by simp) rfl (mg (by decide +kernel)) (by decide +kernel) (by decide) fun _ _ => rfl
  · have e := Option.some.inj hf; subst e; subst hy; exact fin "list" (by simp) rfl (mg (by decide +kernel)) (by decide +kernel) (by decide) fun _ _ => rfl
theorem s_gdict (k : Kx T G n call X sc) {g : Nat} {x : Str} {e : Expr} {fe : Env → Store → Option (D × Store)} {p pos : Pos} (hx : x = T.dname g) (hg : glB sc x = true) (he : PE X e (tEf G fe)) (hs : notSlice e = true) :
    PE X (.Subscript (.Name x p) e pos) (tEf G fun ρ S => (fe ρ S).bind fun x => match x with | (.str s, S1) => ((T.prg.gdict g).lookup s).map fun d => (d, S1) | _ => none) := by
  obtain ⟨g1, g2⟩ := gl_of k hg
  by_cases hex : ∃ u, X.mg x = some u ∧ ∃ q, u = .ref q
  · obtain ⟨u, hu, q, eu⟩ := hex
    subst eu
    refine pe_weak (pe_ix ix_kdict (pe_glob g1 hu (show RelV (.ref q) (.ref q) from rfl) g2) he (plainIx_of hs)) fun σ H Q h => ?_
    obtain ⟨M, S, ρ, d, S', rl, en, h, kk⟩ := h
    obtain ⟨⟨x1, x2⟩, hx1, h2⟩ := Option.bind_eq_some_iff.mp h
    clear h
    cases x1 with
    | str z =>
      obtain ⟨d', hd, h2⟩ := Option.map_eq_some_iff.mp (show ((T.prg.gdict g).lookup z).map (fun d => (d, x2)) = some (d, S') from h2)
      cases h2
      obtain ⟨p', v, f1, f2, f3⟩ := k.fc.gd g z d hd
      refine tEf.mk rl en hx1 fun w M1 H1 r1 q1 p1 => ?_
      obtain ⟨e1, _⟩ := p1
      rw [← hx, hu] at f1
      cases f1
      exact ⟨q, z, v, rfl, e1, by rw [k.K]; exact f2, kk v M1 H1 r1 q1 (f3 M1 _)⟩
    | _ => exact nn h2
  · refine ⟨fun pins s σ H Q I h => ?_⟩
    obtain ⟨M, S, ρ, d, S', rl, en, h, kk⟩ := h
    obtain ⟨⟨x1, x2⟩, hx1, h2⟩ := Option.bind_eq_some_iff.mp h
    cases x1 with
    | str z =>
      obtain ⟨d', hd, h2⟩ := Option.map_eq_some_iff.mp (show ((T.prg.gdict g).lookup z).map (fun d => (d, x2)) = some (d, S') from h2)
      obtain ⟨p', v, f1, _⟩ := k.fc.gd g z d' hd
      exact absurd ⟨_, by rw [hx]; exact f1, p', rfl⟩ hex
    | _ => exact nn h2
/-- reading a name's own list -/
theorem s_lenOwn (k : Kx T G n call X sc) {i : Nat} {x y : Str} {p p2 pos : Pos} (hx : x = "len") (hg : glB sc x = true) (hy : varB X.N sc i y = true) : PE X (.Call (.Name x p) [.Name y p2] [] pos) (tEf G fun ρ S => (getO ρ i).map fun l => (.int l.length, S)) := by
  obtain ⟨g1, g2⟩ := gl_of k hg
  obtain ⟨v1, v2, v3, v4⟩ := var_of k hy
  subst hx
  refine pe_weak (pe_callB call_len g1 (k.fc.bi _ (by decide +kernel)) PySem.boot_len (pa_cons (pe_var v1 v2 v3 v4) pa_nil (star_cons rfl)) (by decide) g2 (star_cons rfl) (plain_any rfl)) fun σ H Q h => ?_
  obtain ⟨M, S, ρ, d, S', rl, en, h, kk⟩ := h
  obtain ⟨l, hl, h⟩ := Option.map_eq_some_iff.mp h
  cases h
  obtain ⟨h0, q, vs, h1, h2, h3, h4, h5⟩ := en.getO hl
  exact ⟨_, h1, _, vs.length, rfl, .inl ⟨vs, SqL.of h2, rfl⟩, kk _ M H rl .refl (by rw [h3.length]; rfl)⟩
theorem s_idxOwn (k : Kx T G n call X sc) {i : Nat} {y : Str} {b : Expr} {fb : Env → Store → Option (D × Store)} {p2 pos : Pos} (hy : varB X.N sc i y = true) (hb : PE X b (tEf G fb)) (hs : notSlice b = true) :
    PE X (.Subscript (.Name y p2) b pos) (tEf G fun ρ S => (fb ρ S).bind fun y => (getO ρ i).bind fun l => match y.1 with | .int k => (atI l k).map fun d => (d, y.2) | _ => none) := by
  obtain ⟨v1, v2, v3, v4⟩ := var_of k hy
  refine pe_weak (pe_ix ix_seq (pe_var v1 v2 v3 v4) hb (plainIx_of hs)) fun σ H Q h => ?_
  obtain ⟨M, S, ρ, d, S', rl, en, h, kk⟩ := h
  obtain ⟨⟨x1, x2⟩, hx1, h⟩ := Option.bind_eq_some_iff.mp h
  obtain ⟨l, hl, h⟩ := Option.bind_eq_some_iff.mp h
  cases x1 with
  | int j =>
    obtain ⟨d', hd, h⟩ := Option.map_eq_some_iff.mp (show (atI l j).map (fun d => (d, x2)) = some (d, S') from h)
    cases h
    obtain ⟨h0, q, vs, h1, h2, h3, h4, h5⟩ := en.getO hl
    refine ⟨_, h1, tEf.mk rl en hx1 fun w M1 H1 r1 q1 p1 => ?_⟩
    obtain ⟨z1, z2, z3⟩ := q1.fgn q _ h2 h4 h5
    obtain ⟨u, u1, u2⟩ := (h3.up q1.up).ati hd
    exact .inl ⟨q, vs, j, u, rfl, p1, SqL.of z1, u1, kk u M1 H1 r1 q1 u2⟩
  | _ => exact nn h
theorem t_truOwn (k : Kx T G n call X sc) {i : Nat} {y : Str} {p2 : Pos} (hy : varB X.N sc i y = true) : PT X (.Name y p2) (tTf G fun ρ S => (getO ρ i).map fun l => (!l.isEmpty, S)) := by
  obtain ⟨v1, v2, v3, v4⟩ := var_of k hy
  refine pt_weak (pt_truth (pe_var v1 v2 v3 v4) (tru_of rfl _)) fun σ H Q h => ?_
  obtain ⟨M, S, ρ, d, S', rl, en, h, kk⟩ := h
  obtain ⟨l, hl, h⟩ := Option.map_eq_some_iff.mp h
  cases h
  obtain ⟨h0, q, vs, h1, h2, h3, h4, h5⟩ := en.getO hl
  refine ⟨_, h1, _, .inl ⟨vs, SqL.of h2, ?_⟩, kk M H rl .refl⟩
  have hl := h3.length
  cases l <;> cases vs <;> first | rfl | simp at hl
end
end HN

/-! Every expression that passes the look does what HN says. -/
namespace HN
open PySem L2
section
variable {T : Tb} {G : Gx} {n : Nat} {call mk : CallF}
theorem and2 {a b : Bool} (h : (a && b) = true) : a = true ∧ b = true := by rw [Bool.and_eq_true] at h; exact h
/-- what is shown of a list's rule: as a value, and as what a name is set to -/
def LOk (G : Gx) (X : Cx) (sc : Scope) (e : Expr) (f : Env → Store → Option (List D × Store)) : Prop :=
  ∃ te : TE, PE X e te ∧ (∀ σ H Q, σ.length = X.N.length → tLf G f σ H Q → te σ H Q) ∧
    ∀ (i : Nat) (x : Str) (py pos : Pos), X.N[i]? = some x → Loc X.env.scope x → (X.fn x = true ∨ X.env.scope.names.lookup x = some .local) →
      (notComp e = true ∨ (∃ el gs s p, e = .ListComp el gs s p ∧ ((X.env.scope.names.lookup x = some .local ∧ (py.line == p.line) = true ∧ (s.names.any fun (n, k) => n == x && (k == .local || k == .cell)) = false) ∨ X.env.scope.names.lookup x = some .cell))) →
      PS X (.Assign [.Name x py] e pos) (tAsg te (gName i))
theorem lok_pe {X : Cx} {sc : Scope} {e : Expr} {f : Env → Store → Option (List D × Store)} (h : LOk G X sc e f) : PE X e (tLf G f) := by
  obtain ⟨te, h1, h2, _⟩ := h
  exact pe_len h1 fun σ H Q hl q => h2 σ H Q hl q
/-- a comprehension -/
theorem lok_comp {X : Cx} {sc : Scope} (k : Kx T G n call X sc) {elt t i : Expr} {fs : List Expr} {s : Scope} {pos : Pos} {tg : List Nat} {one : Bool} {fw : Env → Store → Option ((List D × Option (Nat × List D)) × Store)} {fi : Env → Store → Option (Bool × Store)} {fe : Env → Store → Option (D × Store)}
    (hb : blkC X.N sc s (tg.map fun j => (X.N.getD j "", j)) = true) (ht : tgOk X.N (lclB s) one tg t = true) (hi : PIf X G t i fw) (hns : notSet i = true)
    (hfs : ∀ X', Kx T G n call X' (relS s sc) → X'.N = X.N → PTs X' fs (tTf G fi)) (he : ∀ X', Kx T G n call X' (relS s sc) → X'.N = X.N → PE X' elt (tEf G fe)) :
    LOk G X sc (.ListComp elt [⟨t, i, fs, 0⟩] s pos) (fun ρ S => (fw ρ S).bind fun w => if decide (w.1.1.length ≤ 16777216) then compD (turnC one tg w.1.2 fi fe ρ) w.1.1 w.2 else none) := by
  obtain ⟨wi, pi, ri⟩ := hi.ex
  have hsc := k.sc
  have hblk : BlkOk X.N X.env.scope s (tg.map fun j => (X.N.getD j "", j)) := blkOk_by (by rw [hsc]; exact hb)
  have hown : (tg.map fun j => (X.N.getD j "", j)).map (·.2) = tg := by rw [List.map_map]; exact List.map_id' tg
  have pg : ∀ X' : Cx, Kx T G n call X' (relS s sc) → X'.N = X.N → PG X' t (gOf G.K one tg) ∧ ∀ i ∈ tg, i < X.N.length := fun X' k' hN => by
    have h := pg_of (X := X') (nm := lclB s) (one := one) (is := tg) (tg := t) k'.calm k'.nd (fun x hx => by
      have z : X'.env.scope.names.lookup x = some .local := by rw [k'.sc]; exact lclB_of hx
      exact ⟨.inl z, .inr z⟩) (by rw [hN]; exact ht)
    rw [k'.K, hN] at h
    exact h
  have kb := fun (s0 : Shared) (H : Hp) (C : Addr) (cl : List (Str × Addr)) (fp : List Addr) => k.blk s hblk.kind s0 H C cl fp
  have hgl : ∀ i ∈ tg, i < X.N.length := (pg _ (kb { } (fun _ => none) 0 [] []) rfl).2
  have read : ∀ σ H Q, σ.length = X.N.length → tLf G (fun ρ S => (fw ρ S).bind fun w => if decide (w.1.1.length ≤ 16777216) then compD (turnC one tg w.1.2 fi fe ρ) w.1.1 w.2 else none) σ H Q →
      tLc wi (gOf G.K one tg) (tTf G fi) (tEf G fe) ((tg.map fun j => (X.N.getD j "", j)).map (·.2)) σ H Q := fun σ H Q hl h => by
    rw [hown]
    obtain ⟨M, S, ρ, d, S', rl, en, h, kk⟩ := h
    obtain ⟨⟨w, S0⟩, hw, h⟩ := Option.bind_eq_some_iff.mp h
    split at h
    · rename_i c
      refine ri σ H _ M S ρ w S0 rl en hw fun J M1 H1 r1 x1 io kp D0 hD => ?_
      refine comp_read (fun i hi => by rw [en.len, hl]; exact hgl i hi) (fun _ _ _ z => z) (fun _ _ _ z => z) r1 (en.ext x1) io kp (of_decide_eq_true c) h (fun p vs M2 H2 r2 x2 p2 hp hn f1 f2 => ?_) D0 hD
      exact kk p vs M2 H2 r2 (x1.trans x2) p2 hp (x1.fresh rl r1 hn) f1 f2
    · cases h
  refine ⟨_, pe_lc k.calm k.nd pi hblk (fun s0 H C cl fp => (pg _ (kb s0 H C cl fp) rfl).1) (fun s0 H C cl fp => hfs _ (kb s0 H C cl fp) rfl) (fun s0 H C cl fp => he _ (kb s0 H C cl fp) rfl) (nofold hns _), read, fun j x py pos' hN hx hf hc => ?_⟩
  rcases hc with hc | ⟨el, gs, s', p, ec, hc⟩
  · cases hc
  · cases ec
    rcases hc with ⟨c1, c2, c3⟩ | c
    · exact ps_setLc k.calm k.nd hN c1 (sw_true (by rw [k.sc]; exact k.kind) c1 c2 c3) pi hblk (fun s0 H C cl fp => (pg _ (kb s0 H C cl fp) rfl).1) (fun s0 H C cl fp => hfs _ (kb s0 H C cl fp) rfl) (fun s0 H C cl fp => he _ (kb s0 H C cl fp) rfl) (nofold hns _)
    · refine ps_set k.nd hN hx (pe_lc k.calm k.nd pi hblk (fun s0 H C cl fp => (pg _ (kb s0 H C cl fp) rfl).1) (fun s0 H C cl fp => hfs _ (kb s0 H C cl fp) rfl) (fun s0 H C cl fp => he _ (kb s0 H C cl fp) rfl) (nofold hns _)) ?_ hf
      have ky : X.env.kindOf x = some .cell := c
      unfold swapsWith
      simp only [ky]
      rw [show (some NameKind.cell == some NameKind.local) = false from rfl, Bool.and_false, Bool.false_and, Bool.false_and]
theorem tup_of {N : List Str} {nm : Str → Bool} {is : List Nat} {t : Expr} (h : tgOk N nm false is t = true) : ∃ es j p, t = .Tuple es j p := by
  cases t with
  | Tuple es j p => exact ⟨es, j, p, rfl⟩
  | _ => exact nb h
theorem pof_ok {X : Cx} {m : E} {f : Expr → Bool} {o : Option Expr} (h : mOq (isAbs m) f o = true) (he : ∀ e, f e = true → PE X e (tEf G (evE T.prg call mk m))) : POf X G o (isAbs m) (evE T.prg call mk m) := by
  cases o with
  | none =>
    cases m with
    | absent => exact pof_none
    | _ => exact nb h
  | some e =>
    obtain ⟨h1, h2⟩ := and2 h
    have h1 : isAbs m = false := by simpa using h1
    rw [h1]
    exact pof_some (he e h2)
def esLen : Es → Nat
  | .nil => 0
  | .cons _ r => esLen r + 1
theorem evEs_len {P : Prg} {c m : CallF} : ∀ (ms : Es) (ρ : Env) (S : Store) (r : List D × Store), evEs P c m ms ρ S = some r → r.1.length = esLen ms
  | .nil, _, _, _, h => by cases h; rfl
  | .cons e ms, ρ, S, r, h => by
    obtain ⟨x, _, h⟩ := Option.bind_eq_some_iff.mp (show (evE P c m e ρ S).bind (fun x => (evEs P c m ms ρ x.2).map fun y => (x.1 :: y.1, y.2)) = some r from h)
    obtain ⟨y, hy, h⟩ := Option.map_eq_some_iff.mp h
    subst h
    exact congrArg Nat.succ (evEs_len ms ρ x.2 y hy)
theorem mKs_len {N : List Str} {sc : Scope} : ∀ (ms : Es) (es : List Keyword), mKs T N sc ms es = true → esLen ms = es.length
  | .nil, [], _ => rfl
  | .nil, _ :: _, h => nb h
  | .cons m ms, [], h => nb h
  | .cons m ms, k :: r, h => congrArg Nat.succ (mKs_len ms r (and2 (show (mE T N sc m k.value && mKs T N sc ms r) = true from h)).2)
set_option maxHeartbeats 4000000
mutual
theorem okE : ∀ (m : E) (e : Expr) (X : Cx) (sc : Scope), Kx T G n call X sc → mE T X.N sc m e = true → PE X e (tEf G (evE T.prg call mk m))
  | .var i, e, X, sc, k, h => by
    cases e with
    | Name x pos =>
      obtain ⟨v1, v2, v3, v4⟩ := var_of k (show varB X.N sc i x = true from h)
      exact s_var v1 v2 v3 v4
    | _ => exact nb h
  | .int i, e, X, sc, k, h => by
    cases e with
    | Constant c j pos =>
      cases c with
      | int z =>
        have h := of_decide_eq_true h
        subst h
        exact s_const pe_int fun _ _ => rfl
      | _ => exact nb h
    | _ => exact nb h
  | .str s, e, X, sc, k, h => by
    cases e with
    | Constant c j pos =>
      cases c with
      | str z =>
        have h : (decide (s = z) && PyData.strOk s && decide (s.length ≤ 16777216)) = true := h
        obtain ⟨h1, h2⟩ := and2 h
        obtain ⟨h1, h3⟩ := and2 h1
        have h1 := of_decide_eq_true h1
        subst h1
        exact s_const pe_str fun _ _ => ⟨rfl, h3, of_decide_eq_true h2⟩
      | _ => exact nb h
    | _ => exact nb h
  | .bl b, e, X, sc, k, h => by
    cases e with
    | Constant c j pos =>
      cases c with
      | bool z =>
        have h := of_decide_eq_true h
        subst h
        exact s_const pe_bl fun _ _ => rfl
      | _ => exact nb h
    | _ => exact nb h
  | .non, e, X, sc, k, h => by
    cases e with
    | Constant c j pos =>
      cases c with
      | none => exact s_const pe_non fun _ _ => rfl
      | _ => exact nb h
    | _ => exact nb h
  | .glob g, e, X, sc, k, h => by
    cases e with
    | Name x pos =>
      obtain ⟨h1, h2⟩ := and2 h
      have h1 := List.contains_iff_mem.mp h1
      obtain ⟨g1, g2⟩ := gl_of k h2
      exact s_glob g1 g2 fun d hd => k.fc.glob g d x hd h1
    | _ => exact nb h
  | .absent, e, X, sc, k, h => nb h
  | .bin op a b, e, X, sc, k, h => by
    cases e with
    | BinOp l o r pos =>
      obtain ⟨h1, h2⟩ := and2 h
      obtain ⟨h1, h3⟩ := and2 h1
      exact s_bin k.K h1 (okE a l X sc k h3) (okE b r X sc k h2)
    | _ => exact nb h
  | .neg a, e, X, sc, k, h => by
    cases e with
    | UnaryOp o x pos =>
      cases o with
      | USub => exact s_neg (okE a x X sc k h)
      | _ => exact nb h
    | _ => exact nb h
  | .cmp op a b, e, X, sc, k, h => by
    cases e with
    | Compare l os rs pos =>
      match os, rs, h with
      | [o], [r], h =>
        obtain ⟨h1, h2⟩ := and2 h
        obtain ⟨h1, h3⟩ := and2 h1
        obtain ⟨h1, h4⟩ := and2 h1
        exact s_cmp k.hu k.K h1 (okE a l X sc k h4) (okE b r X sc k h3) (unmarked h2)
      | [], _, h => exact nb h
      | [_], [], h => exact nb h
      | [_], _ :: _ :: _, h => exact nb h
      | _ :: _ :: _, [], h => exact nb h
      | _ :: _ :: _, _ :: _, h => exact nb h
    | _ => exact nb h
  | .chain op op' a b c, e, X, sc, k, h => by
    cases e with
    | Compare l os rs pos =>
      match os, rs, h with
      | [o, o'], [m, r], h =>
        obtain ⟨h1, h2⟩ := and2 h
        obtain ⟨h1, h3⟩ := and2 h1
        obtain ⟨h1, h4⟩ := and2 h1
        obtain ⟨h1, h5⟩ := and2 h1
        obtain ⟨h1, h6⟩ := and2 h1
        exact s_chain k.hu k.K h1 h6 (okE a l X sc k h5) (okE b m X sc k h4) (okE c r X sc k h3) (unmarked2 h2)
      | [], _, h => exact nb h
      | [_], _, h => exact nb h
      | _ :: _ :: _ :: _, _, h => exact nb h
      | [_, _], [], h => exact nb h
      | [_, _], [_], h => exact nb h
      | [_, _], _ :: _ :: _ :: _, h => exact nb h
    | _ => exact nb h
  | .and es, e, X, sc, k, h => by
    cases e with
    | BoolOp o vs pos =>
      cases o with
      | And => exact okAnd es vs pos X sc k h
      | Or => exact nb h
    | _ => exact nb h
  | .or es, e, X, sc, k, h => by
    cases e with
    | BoolOp o vs pos =>
      cases o with
      | Or => exact okOr es vs pos X sc k h
      | And => exact nb h
    | _ => exact nb h
  | .not a, e, X, sc, k, h => by
    cases e with
    | UnaryOp o x pos =>
      cases o with
      | Not => exact s_not (okE a x X sc k h)
      | _ => exact nb h
    | _ => exact nb h
  | .ite c a b, e, X, sc, k, h => by
    cases e with
    | IfExp t x y pos =>
      obtain ⟨h1, h2⟩ := and2 h
      obtain ⟨h1, h3⟩ := and2 h1
      exact s_ite (okT c t X sc k h1) (okE a x X sc k h3) (okE b y X sc k h2)
    | _ => exact nb h
  | .call f es, e, X, sc, k, h => by
    cases e with
    | Call g args kws pos =>
      cases g with
      | Name x p =>
        cases kws with
        | nil =>
          obtain ⟨h1, h2⟩ := and2 h
          obtain ⟨h1, h3⟩ := and2 h1
          obtain ⟨h1, h4⟩ := and2 h1
          obtain ⟨h1, h5⟩ := and2 h1
          have h1 := of_decide_eq_true h1
          have h4 := of_decide_eq_true h4
          subst h1
          obtain ⟨g1, g2⟩ := gl_of k h3
          obtain ⟨fa, fd, m1, m2, m3, m4, _⟩ := k.fc.fn f h5
          have b := m4 h4
          obtain ⟨a1, a2⟩ := okEs es args X sc k h2
          rw [← k.K] at m2 m3 b
          cases args with
          | nil =>
            have z := s_call0 (cf := call f) m3 k.room k.gd g1 m1 m2 b (k.fc.len f) g2 (p := p) (pos := pos)
            cases es with
            | nil => exact z
            | cons _ _ => exact nb h2
          | cons a args =>
            rw [List.all_cons] at a2
            obtain ⟨a2, a3⟩ := and2 a2
            exact s_call (cf := call f) m3 k.room k.gd g1 m1 m2 b (k.fc.len f) a1 g2 a2 a3
        | cons _ _ => exact nb h
      | _ => exact nb h
    | _ => exact nb h
  | .callK f es ks, e, X, sc, k, h => by
    cases e with
    | Call g args kws pos =>
      cases g with
      | Name x p =>
        cases args with
        | nil => exact nb h
        | cons a args =>
          obtain ⟨h1, h2⟩ := and2 h
          obtain ⟨h1, h3⟩ := and2 h1
          obtain ⟨h1, h4⟩ := and2 h1
          obtain ⟨h1, h5⟩ := and2 h1
          obtain ⟨h1, h6⟩ := and2 h1
          obtain ⟨h1, h7⟩ := and2 h1
          have h1 := of_decide_eq_true h1
          have h6 := of_decide_eq_true h6
          subst h1
          obtain ⟨g1, g2⟩ := gl_of k h5
          obtain ⟨fa, fd, m1, m2, m3, _, m5⟩ := k.fc.fn f h7
          have b := m5 h6
          obtain ⟨a1, a2⟩ := okEs es (a :: args) X sc k h4
          rw [← k.K] at m2 m3 b
          rw [List.all_cons] at a2
          obtain ⟨a2, a3⟩ := and2 a2
          obtain ⟨k1, k2, k3⟩ := kw_facts (pos := pos) (env := X.env) h2
          exact s_callK (cf := call f) m3 k.room k.gd g1 m1 m2 b (fun ρ S r hr => by rw [evEs_len ks ρ S r hr, mKs_len ks kws h3]; exact kwB_len h2) (k.fc.len f) a1 (okKs ks kws X sc k h3) k1 k2 k3 g2 a2 a3
      | _ => exact nb h
    | _ => exact nb h
  | .idx a b, e, X, sc, k, h => by
    cases e with
    | Subscript x y pos =>
      obtain ⟨h1, h2⟩ := and2 h
      obtain ⟨h1, h3⟩ := and2 h1
      exact s_idx k.K (okE a x X sc k h3) (okE b y X sc k h2) h1
    | _ => exact nb h
  | .slice a lo hi, e, X, sc, k, h => by
    cases e with
    | Subscript x y pos =>
      cases y with
      | Slice l u st p2 =>
        cases st with
        | none =>
          obtain ⟨h1, h2⟩ := and2 h
          obtain ⟨h1, h3⟩ := and2 h1
          exact s_slice k.K (okE a x X sc k h1) (pof_ok h3 fun e he => okE lo e X sc k he) (pof_ok h2 fun e he => okE hi e X sc k he)
        | some _ => exact nb h
      | _ => exact nb h
    | _ => exact nb h
  | .rev a, e, X, sc, k, h => by
    cases e with
    | Subscript x y pos =>
      cases y with
      | Slice l u st p2 =>
        match l, u, st, h with
        | none, none, some (.UnaryOp .USub (.Constant (.int 1) j p1) p3), h => exact s_rev k.K (okE a x X sc k h)
      | _ => exact nb h
    | _ => exact nb h
  | .tup es, e, X, sc, k, h => by
    cases e with
    | Tuple xs j pos => exact s_tup (okEs es xs X sc k h).1
    | _ => exact nb h
  | .frz l, e, X, sc, k, h => s_frz (lok_pe (okL l e X sc k h))
  | .shr l, e, X, sc, k, h => s_shr (lok_pe (okL l e X sc k h))
  | .bi f es, e, X, sc, k, h => by
    cases e with
    | Call g args kws pos =>
      cases g with
      | Name x p =>
        cases kws with
        | nil =>
          obtain ⟨h1, h2⟩ := and2 h
          obtain ⟨h1, h3⟩ := and2 h1
          obtain ⟨h1, h4⟩ := and2 h1
          obtain ⟨hx, h5⟩ := and2 h1
          obtain ⟨a1, a2⟩ := okEs es args X sc k h2
          cases args with
          | nil => exact nb h3
          | cons a args =>
            rw [List.all_cons] at a2
            obtain ⟨a2, a3⟩ := and2 a2
            exact bi_rule k h4 (of_decide_eq_true hx) h5 a1 a2 a3
        | cons _ _ => exact nb h
      | _ => exact nb h
    | _ => exact nb h
  | .isi f m, e, X, sc, k, h => by
    match e, h with
    | .Call (.Name x p) [a, .Name y p2] [] pos, h =>
      obtain ⟨h1, h2⟩ := and2 h
      obtain ⟨h1, h3⟩ := and2 h1
      obtain ⟨h1, h4⟩ := and2 h1
      obtain ⟨h1, h5⟩ := and2 h1
      obtain ⟨h1, h6⟩ := and2 h1
      obtain ⟨t, q, e⟩ := Option.map_eq_some_iff.mp (of_decide_eq_true h5).symm
      exact is_rule k q (of_decide_eq_true h1) h6 e.symm h4 (okE m a X sc k h2) h3
    | .Call (.Name x p) [a] [⟨some d, .Constant (.int z) j cp, kp⟩] pos, h =>
      obtain ⟨h1, h2⟩ := and2 h
      obtain ⟨h1, h3⟩ := and2 h1
      obtain ⟨h1, h4⟩ := and2 h1
      obtain ⟨h1, h5⟩ := and2 h1
      obtain ⟨h1, h6⟩ := and2 h1
      obtain ⟨h1, h7⟩ := and2 h1
      have e6 := of_decide_eq_true h6
      have e5 := of_decide_eq_true h5
      subst e5 e6
      have hx := of_decide_eq_true h7
      obtain ⟨g1, g2⟩ := gl_of k h4
      have hm : X.mg x = none := by rw [hx]; exact k.fc.bi _ (by decide +kernel)
      have r := s_maxDef (G := G) (pos := pos) (kp := kp) (cp := cp) (k := j) (p := p) k.K k.calm k.hu hx g1 hm g2 (okE m a X sc k h2) h3
      cases f <;> first | exact nb h1 | exact r
  | .lenOwn i, e, X, sc, k, h => by
    cases e with
    | Call g args kws pos =>
      match g, args, kws, h with
      | .Name x p, [.Name y p2], [], h =>
        obtain ⟨h1, h2⟩ := and2 h
        obtain ⟨h1, h3⟩ := and2 h1
        exact s_lenOwn k (of_decide_eq_true h1) h3 h2
    | _ => exact nb h
  | .idxOwn i b, e, X, sc, k, h => by
    cases e with
    | Subscript a z pos =>
      cases a with
      | Name y p =>
        obtain ⟨h1, h2⟩ := and2 h
        obtain ⟨h1, h3⟩ := and2 h1
        exact s_idxOwn k h3 (okE b z X sc k h2) h1
      | _ => exact nb h
    | _ => exact nb h
  | .truOwn i, e, X, sc, k, h => pe_no
  | .dict0, e, X, sc, k, h => by
    cases e <;> first | exact nb h | skip
    rename_i ks vs pos
    cases ks <;> cases vs <;> first | exact nb h | skip
    exact s_dict0
  | .dictN, e, X, sc, k, h => by
    cases e <;> first | exact nb h | skip
    rename_i ks vs pos
    cases ks <;> cases vs <;> first | exact nb h | skip
    exact s_dictN
  | .gdict g a, e, X, sc, k, h => by
    cases e with
    | Subscript x y pos =>
      cases x with
      | Name x p =>
        obtain ⟨h1, h2⟩ := and2 h
        obtain ⟨h1, h3⟩ := and2 h1
        obtain ⟨h1, h4⟩ := and2 h1
        exact s_gdict k (of_decide_eq_true h1) h4 (okE a y X sc k h2) h3
      | _ => exact nb h
    | _ => exact nb h
  | .meth _ _ _ _, e, X, sc, k, h => nb h
  | .make _ _, e, X, sc, k, h => nb h
  | .record _ _ _, e, X, sc, k, h => nb h
  | .fld _ _ _, e, X, sc, k, h => nb h
  | .app _ _, e, X, sc, k, h => nb h
  | .pop _, e, X, sc, k, h => nb h
theorem okT : ∀ (m : E) (e : Expr) (X : Cx) (sc : Scope), Kx T G n call X sc → mE T X.N sc m e = true → PT X e (tTf G (evT T.prg call mk m))
  | .cmp op a b, e, X, sc, k, h => by
    cases e with
    | Compare l os rs pos =>
      match os, rs, h with
      | [o], [r], h =>
        obtain ⟨h1, h2⟩ := and2 h
        obtain ⟨h1, h3⟩ := and2 h1
        obtain ⟨h1, h4⟩ := and2 h1
        exact t_cmp k.hu k.K h1 (okE a l X sc k h4) (okE b r X sc k h3) (unmarked h2)
      | [], _, h => exact nb h
      | [_], [], h => exact nb h
      | [_], _ :: _ :: _, h => exact nb h
      | _ :: _ :: _, [], h => exact nb h
      | _ :: _ :: _, _ :: _, h => exact nb h
    | _ => exact nb h
  | .chain op op' a b c, e, X, sc, k, h => by
    cases e with
    | Compare l os rs pos =>
      match os, rs, h with
      | [o, o'], [m, r], h =>
        obtain ⟨h1, h2⟩ := and2 h
        obtain ⟨h1, h3⟩ := and2 h1
        obtain ⟨h1, h4⟩ := and2 h1
        obtain ⟨h1, h5⟩ := and2 h1
        obtain ⟨h1, h6⟩ := and2 h1
        exact t_chain k.hu k.K h1 h6 (okE a l X sc k h5) (okE b m X sc k h4) (okE c r X sc k h3) (unmarked2 h2)
      | [], _, h => exact nb h
      | [_], _, h => exact nb h
      | _ :: _ :: _ :: _, _, h => exact nb h
      | [_, _], [], h => exact nb h
      | [_, _], [_], h => exact nb h
      | [_, _], _ :: _ :: _ :: _, h => exact nb h
    | _ => exact nb h
  | .and es, e, X, sc, k, h => by
    cases e with
    | BoolOp o vs pos =>
      cases o with
      | And => exact (okAndT es vs pos X sc k h).pt
      | Or => exact nb h
    | _ => exact nb h
  | .or es, e, X, sc, k, h => by
    cases e with
    | BoolOp o vs pos =>
      cases o with
      | Or => exact (okOrT es vs pos X sc k h).pt
      | And => exact nb h
    | _ => exact nb h
  | .not a, e, X, sc, k, h => by
    cases e with
    | UnaryOp o x pos =>
      cases o with
      | Not => exact t_not (okT a x X sc k h)
      | _ => exact nb h
    | _ => exact nb h
  | .truOwn i, e, X, sc, k, h => by
    cases e with
    | Name y pos => exact t_truOwn k h
    | _ => exact nb h
  | .var i, e, X, sc, k, h => by
    have z := okE (.var i) e X sc k h
    cases e with
    | Name x pos => exact t_val k.K z (tru_of rfl _)
    | _ => exact nb h
  | .call f es, e, X, sc, k, h => by
    have z := okE (.call f es) e X sc k h
    cases e with
    | Call g args kws pos => exact t_val k.K z (tru_of rfl _)
    | _ => exact nb h
  | .callK f es ks, e, X, sc, k, h => by
    have z := okE (.callK f es ks) e X sc k h
    cases e with
    | Call g args kws pos => exact t_val k.K z (tru_of rfl _)
    | _ => exact nb h
  | .idx a b, e, X, sc, k, h => by
    have z := okE (.idx a b) e X sc k h
    cases e with
    | Subscript x y pos => exact t_val k.K z (tru_of rfl _)
    | _ => exact nb h
  | .isi f a, e, X, sc, k, h => by
    have z := okE (.isi f a) e X sc k h
    cases e with
    | Call g args kws pos => exact t_val k.K z (tru_of rfl _)
    | _ => exact nb h
  | .bi f es, e, X, sc, k, h => by
    have z := okE (.bi f es) e X sc k h
    cases e with
    | Call g args kws pos => exact t_val k.K z (tru_of rfl _)
    | _ => exact nb h
  | .bl b, e, X, sc, k, h => by
    have z := okE (.bl b) e X sc k h
    cases e with
    | Constant c j pos => exact t_val k.K z (tru_of rfl _)
    | _ => exact nb h
  | .int _, _, _, _, _, _ => pt_no
  | .str _, _, _, _, _, _ => pt_no
  | .non, _, _, _, _, _ => pt_no
  | .glob _, _, _, _, _, _ => pt_no
  | .absent, _, _, _, _, _ => pt_no
  | .bin _ _ _, _, _, _, _, _ => pt_no
  | .neg _, _, _, _, _, _ => pt_no
  | .ite _ _ _, _, _, _, _, _ => pt_no
  | .slice _ _ _, _, _, _, _, _ => pt_no
  | .rev _, _, _, _, _, _ => pt_no
  | .tup _, _, _, _, _, _ => pt_no
  | .frz _, _, _, _, _, _ => pt_no
  | .shr _, _, _, _, _, _ => pt_no
  | .lenOwn _, _, _, _, _, _ => pt_no
  | .idxOwn _ _, _, _, _, _, _ => pt_no
  | .gdict _ _, _, _, _, _, _ => pt_no
  | .dict0, _, _, _, _, _ => pt_no
  | .dictN, _, _, _, _, _ => pt_no
  | .meth _ _ _ _, e, X, sc, k, h => nb h
  | .make _ _, e, X, sc, k, h => nb h
  | .record _ _ _, e, X, sc, k, h => nb h
  | .fld _ _ _, e, X, sc, k, h => nb h
  | .app _ _, e, X, sc, k, h => nb h
  | .pop _, e, X, sc, k, h => nb h
theorem okEs : ∀ (ms : Es) (es : List Expr) (X : Cx) (sc : Scope), Kx T G n call X sc → mEs T X.N sc ms es = true → PA X es (tAf G (evEs T.prg call mk ms)) ∧ es.all notStar = true
  | .nil, es, X, sc, k, h => by
    cases es with
    | nil => exact ⟨a_nil, rfl⟩
    | cons _ _ => exact nb h
  | .cons m ms, es, X, sc, k, h => by
    cases es with
    | nil => exact nb h
    | cons e es =>
      obtain ⟨h1, h2⟩ := and2 h
      obtain ⟨h1, h3⟩ := and2 h1
      obtain ⟨a1, a2⟩ := okEs ms es X sc k h2
      exact ⟨a_cons h1 (okE m e X sc k h3) a1, by rw [List.all_cons, h1, a2] <;> rfl⟩
theorem okKs : ∀ (ms : Es) (es : List Keyword) (X : Cx) (sc : Scope), Kx T G n call X sc → mKs T X.N sc ms es = true → PK X es (tAf G (evEs T.prg call mk ms))
  | .nil, es, X, sc, k, h => by
    cases es with
    | nil => exact k_nil
    | cons _ _ => exact nb h
  | .cons m ms, es, X, sc, k, h => by
    cases es with
    | nil => exact nb h
    | cons e es =>
      obtain ⟨h1, h2⟩ := and2 h
      obtain ⟨nm, v, p⟩ := e
      exact k_cons (okE m v X sc k h1) (okKs ms es X sc k h2)
theorem okAnd : ∀ (ms : Es) (es : List Expr) (pos : Pos) (X : Cx) (sc : Scope), Kx T G n call X sc → mEs T X.N sc ms es = true → PE X (.BoolOp .And es pos) (tEf G (evAnd T.prg call mk ms))
  | .nil, es, pos, X, sc, k, h => pe_no
  | .cons m .nil, es, pos, X, sc, k, h => by
    match es, h with
    | [e], h =>
      obtain ⟨h1, h2⟩ := and2 h
      obtain ⟨h1, h3⟩ := and2 h1
      exact pe_one (okE m e X sc k h3)
    | _ :: _ :: _, h => exact nb (and2 h).2
  | .cons m (.cons m' ms), es, pos, X, sc, k, h => by
    match es, h with
    | e :: e' :: es, h =>
      obtain ⟨h1, h2⟩ := and2 h
      obtain ⟨h1, h3⟩ := and2 h1
      exact s_and (okE m e X sc k h3) (okAnd (.cons m' ms) (e' :: es) pos X sc k h2)
    | [_], h => exact nb (and2 h).2
theorem okOr : ∀ (ms : Es) (es : List Expr) (pos : Pos) (X : Cx) (sc : Scope), Kx T G n call X sc → mEs T X.N sc ms es = true → PE X (.BoolOp .Or es pos) (tEf G (evOr T.prg call mk ms))
  | .nil, es, pos, X, sc, k, h => pe_no
  | .cons m .nil, es, pos, X, sc, k, h => by
    match es, h with
    | [e], h =>
      obtain ⟨h1, h2⟩ := and2 h
      obtain ⟨h1, h3⟩ := and2 h1
      exact pe_one (okE m e X sc k h3)
    | _ :: _ :: _, h => exact nb (and2 h).2
  | .cons m (.cons m' ms), es, pos, X, sc, k, h => by
    match es, h with
    | e :: e' :: es, h =>
      obtain ⟨h1, h2⟩ := and2 h
      obtain ⟨h1, h3⟩ := and2 h1
      exact s_or (okE m e X sc k h3) (okOr (.cons m' ms) (e' :: es) pos X sc k h2)
    | [_], h => exact nb (and2 h).2
theorem okAndT : ∀ (ms : Es) (es : List Expr) (pos : Pos) (X : Cx) (sc : Scope), Kx T G n call X sc → mEs T X.N sc ms es = true → PW X (.BoolOp .And es pos) (tTf G (evAndT T.prg call mk ms))
  | .nil, es, pos, X, sc, k, h => pw_no
  | .cons m .nil, es, pos, X, sc, k, h => by
    match es, h with
    | [e], h =>
      obtain ⟨h1, h2⟩ := and2 h
      obtain ⟨h1, h3⟩ := and2 h1
      exact pw_and1 (okT m e X sc k h3)
    | _ :: _ :: _, h => exact nb (and2 h).2
  | .cons m (.cons m' ms), es, pos, X, sc, k, h => by
    match es, h with
    | e :: e' :: es, h =>
      obtain ⟨h1, h2⟩ := and2 h
      obtain ⟨h1, h3⟩ := and2 h1
      exact w_and (okT m e X sc k h3) (okAndT (.cons m' ms) (e' :: es) pos X sc k h2)
    | [_], h => exact nb (and2 h).2
theorem okOrT : ∀ (ms : Es) (es : List Expr) (pos : Pos) (X : Cx) (sc : Scope), Kx T G n call X sc → mEs T X.N sc ms es = true → PW X (.BoolOp .Or es pos) (tTf G (evOrT T.prg call mk ms))
  | .nil, es, pos, X, sc, k, h => pw_no
  | .cons m .nil, es, pos, X, sc, k, h => by
    match es, h with
    | [e], h =>
      obtain ⟨h1, h2⟩ := and2 h
      obtain ⟨h1, h3⟩ := and2 h1
      exact pw_or1 (okT m e X sc k h3)
    | _ :: _ :: _, h => exact nb (and2 h).2
  | .cons m (.cons m' ms), es, pos, X, sc, k, h => by
    match es, h with
    | e :: e' :: es, h =>
      obtain ⟨h1, h2⟩ := and2 h
      obtain ⟨h1, h3⟩ := and2 h1
      exact w_or (okT m e X sc k h3) (okOrT (.cons m' ms) (e' :: es) pos X sc k h2)
    | [_], h => exact nb (and2 h).2
theorem okIfs : ∀ (ms : Es) (es : List Expr) (X : Cx) (sc : Scope), Kx T G n call X sc → mEs T X.N sc ms es = true → PTs X es (tTf G (evIfs T.prg call mk ms))
  | .nil, es, X, sc, k, h => by
    cases es with
    | nil =>
      refine pts_weak pts_nil fun σ H Q h => ?_
      obtain ⟨M, S, ρ, d, S', rl, en, h, kk⟩ := h
      cases h
      exact kk M H rl .refl
    | cons _ _ => exact nb h
  | .cons m .nil, es, X, sc, k, h => by
    match es, h with
    | [e], h =>
      obtain ⟨h1, h2⟩ := and2 h
      obtain ⟨h1, h3⟩ := and2 h1
      exact pts_one (okT m e X sc k h3)
    | _ :: _ :: _, h => exact nb (and2 h).2
  | .cons _ (.cons _ _), es, X, sc, k, h => pts_no
theorem okL : ∀ (l : Lx) (e : Expr) (X : Cx) (sc : Scope), Kx T G n call X sc → mL T X.N sc l e = true → LOk G X sc e (evL T.prg call mk l)
  | .disp es, e, X, sc, k, h => by
    cases e with
    | List xs pos =>
      have z := l_disp (pos := pos) (okEs es xs X sc k h).1
      exact ⟨_, z, fun _ _ _ _ q => q, fun i x py pos' hN hx hf hc => ps_set k.nd hN hx z (sw_false rfl _ _ _) hf⟩
    | _ => exact nb h
  | .comp tg one it ifs elt, e, X, sc, k, h => by
    match e, h with
    | .ListComp x [⟨t, i, fs, 0⟩] s pos, h =>
      obtain ⟨h1, h2⟩ := and2 h
      obtain ⟨h1, h3⟩ := and2 h1
      obtain ⟨h1, h4⟩ := and2 h1
      obtain ⟨h1, h5⟩ := and2 h1
      obtain ⟨h1, h6⟩ := and2 h1
      exact lok_comp k h1 h6 (okI it i one X sc t k h5 (fun h1 => tup_of (by rw [← h1]; exact h6))) h2 (fun X' k' hN => okIfs ifs fs X' _ k' (by rw [hN]; exact h4)) fun X' k' hN => okE elt x X' _ k' (by rw [hN]; exact h3)
theorem okI : ∀ (it : It) (i : Expr) (one : Bool) (X : Cx) (sc : Scope) (tg : Expr), Kx T G n call X sc → mI T X.N sc one it i = true → (one = false → ∃ es j p, tg = .Tuple es j p) → PIf X G tg i (evI T.prg call mk it)
  | .e m, i, one, X, sc, tg, k, h, ht => i_e k.K (okE m i X sc k h)
  | .range1 a, i, one, X, sc, tg, k, h, ht => by
    match i, h with
    | .Call (.Name x p) [q] [] pos, h =>
      obtain ⟨h1, h2⟩ := and2 h
      obtain ⟨h1, h3⟩ := and2 h1
      obtain ⟨h1, h4⟩ := and2 h1
      have h1 := of_decide_eq_true h1
      subst h1
      exact i_range1 (gl_of k h4).1 (k.fc.bi _ (by decide +kernel)) (okE a q X sc k h2) h3
  | .range2 a b, i, one, X, sc, tg, k, h, ht => by
    match i, h with
    | .Call (.Name x p) [q, r] [] pos, h =>
      obtain ⟨h1, h2⟩ := and2 h
      obtain ⟨h1, h3⟩ := and2 h1
      obtain ⟨h1, h4⟩ := and2 h1
      obtain ⟨h1, h5⟩ := and2 h1
      obtain ⟨h1, h6⟩ := and2 h1
      have h1 := of_decide_eq_true h1
      subst h1
      exact i_range2 (gl_of k h6).1 (k.fc.bi _ (by decide +kernel)) (okE a q X sc k h3) (okE b r X sc k h2) h5 h4
  | .rev a, i, one, X, sc, tg, k, h, ht => by
    match i, h with
    | .Call (.Name x p) [q] [] pos, h =>
      obtain ⟨h1, h2⟩ := and2 h
      obtain ⟨h1, h3⟩ := and2 h1
      obtain ⟨h1, h4⟩ := and2 h1
      have h1 := of_decide_eq_true h1
      subst h1
      exact i_rev k.K (gl_of k h4).1 (k.fc.bi _ (by decide +kernel)) (okE a q X sc k h2) h3
  | .zip a b, i, one, X, sc, tg, k, h, ht => by
    match i, h with
    | .Call (.Name x p) [q, r] [] pos, h =>
      obtain ⟨h1, h2⟩ := and2 h
      obtain ⟨h1, h3⟩ := and2 h1
      obtain ⟨h1, h4⟩ := and2 h1
      obtain ⟨h1, h5⟩ := and2 h1
      obtain ⟨h1, h6⟩ := and2 h1
      obtain ⟨h1, h7⟩ := and2 h1
      have h7 := of_decide_eq_true h7
      subst h7
      obtain ⟨es, j, pp, e⟩ := ht (by simpa using h1)
      subst e
      exact i_zip k.K (gl_of k h6).1 (k.fc.bi _ (by decide +kernel)) (okE a q X sc k h3) (okE b r X sc k h2) h5 h4
end
end
end HN

/-! Statements and defs: what passes the look does what HN says. -/
namespace HN
open PySem L2

def storeB (N : List Str) (sc : Scope) (i : Nat) (x : Str) : Bool := decide (N[i]? = some x) && locB sc x && nmB x
/-- a list that is stored in a name: a display, or a comprehension on the name's line -/
def onLine (sc : Scope) (x : Str) (py : Pos) : Expr → Bool
  | .ListComp _ _ s p => (lclB sc x && (py.line == p.line) && !(s.names.any fun (n, k) => n == x && (k == .local || k == .cell))) || decide (sc.names.lookup x = some .cell)
  | e => notComp e
/-- a, b = x, y with two plain names on one line -/
def parC (N : List Str) (sc : Scope) (i j : Nat) (x y : Str) (px py : Pos) (a b : Expr) (k : List Expr → Bool) : Bool :=
  decide (N[i]? = some x) && (decide (N[j]? = some y) && (decide (i ≠ j) && (lclB sc x && (lclB sc y && ((py.line == px.line) && (notStar a && (notStar b && (!([a, b].all (foldedForSure 8)) && (!([a, b].all (constantsAlone 8)) && k [a, b])))))))))
def parE (N : List Str) (sc : Scope) (is : List Nat) (ts vs : List Expr) (k : List Expr → Bool) : Bool := match is, ts, vs with
  | [i, j], [.Name x px, .Name y py], [a, b] => parC N sc i j x y px py a b k
  | _, _, _ => false
def parB (N : List Str) (sc : Scope) (is : List Nat) : Stmt → (List Expr → Bool) → Bool
  | .Assign [.Tuple ts _ _] (.Tuple vs _ _) _, k => parE N sc is ts vs k
  | _, _ => false
theorem parB_inv {N : List Str} {sc : Scope} {is : List Nat} {s : Stmt} {k : List Expr → Bool} (h : parB N sc is s k = true) : ∃ i j x y px py kt pt a b k2 pt2 pos, is = [i, j] ∧ s = .Assign [.Tuple [.Name x px, .Name y py] kt pt] (.Tuple [a, b] k2 pt2) pos ∧ parC N sc i j x y px py a b k = true := by
  unfold parB at h
  split at h
  · unfold parE at h
    split at h
    · exact ⟨_, _, _, _, _, _, _, _, _, _, _, _, _, rfl, rfl, h⟩
    · exact nb h
  · exact nb h
mutual
def mS (T : Tb) (N : List Str) (sc : Scope) : St → Stmt → Bool
  | .expr m, s => (match s with | .Expr e _ => notComp e && mE T N sc m e | _ => false)
  | .set i m, s => (match s with | .Assign [.Name x py] e _ => storeB N sc i x && (match m with
      | .frz l => mL T N sc l e && onLine sc x py e
      | m => notComp e && mE T N sc m e) | _ => false)
  | .setOwn i l, s => (match s with | .Assign [.Name x py] e _ => storeB N sc i x && mL T N sc l e && onLine sc x py e | _ => false)
  | .setT is m, s => (match s with | .Assign [.Tuple ts k p] e _ => tgOk N (locB sc) false is (.Tuple ts k p) && notComp e && (notTuple e || celT sc (.Tuple ts k p)) && mE T N sc m e | _ => false)
  | .setL is m, s => (match s with | .Assign [.Tuple ts k p] e _ => tgOk N (locB sc) false is (.Tuple ts k p) && notComp e && notTuple e && mE T N sc m e | _ => false)
  | .par is es, s => parB N sc is s fun l => mEs T N sc es l
  | .aug i op m, s => (match s with | .AugAssign (.Name x _) o e _ => storeB N sc i x && bopB op o && mE T N sc m e | _ => false)
  | .appOwn v m, s => (match s with | .Expr (.Call (.Attribute (.Name x _) a ap) [e] [] cp) _ => decide (a = ("append" : Str)) && varB N sc v x && notStar e && (ap.endLine == cp.line) && mE T N sc m e | _ => false)
  | .extOwn v m, s => (match s with | .Expr (.Call (.Attribute (.Name x _) a ap) [e] [] cp) _ => decide (a = ("extend" : Str)) && varB N sc v x && notStar e && (ap.endLine == cp.line) && mE T N sc m e | _ => false)
  | .popOwn i v, s => (match s with | .Assign [.Name y _] (.Call (.Attribute (.Name x _) a ap) [] [] cp) _ => decide (a = ("pop" : Str)) && varB N sc v x && storeB N sc i y && (ap.endLine == cp.line) | _ => false)
  | .setIx o i m, s => (match s with | .Assign [.Subscript a b _] e _ => notSlice b && notComp e && notTuple e && mE T N sc m e && mE T N sc o a && mE T N sc i b | _ => false)
  | .setIxOwn v i m, s => (match s with | .Assign [.Subscript (.Name x _) b _] e _ => notSlice b && notComp e && notTuple e && varB N sc v x && mE T N sc m e && mE T N sc i b | _ => false)
  | .ite c a b, s => (match s with | .If t x y _ => mE T N sc c t && mSs T N sc a x && mSs T N sc b y | _ => false)
  | .forS tg one it body, s => (match s with | .For t i b [] _ => tgOk N (locB sc) one tg t && notSet i && mI T N sc one it i && mSs T N sc body b | _ => false)
  | .while c body, s => (match s with | .While t b [] _ => mE T N sc c t && mSs T N sc body b | _ => false)
  | .ret m, s => (match s with | .Return (some e) _ => mE T N sc m e | _ => false)
  | .retN, s => (match s with | .Return none _ => true | _ => false)
  | .dset, _ => true
  | .setKey o i, s => (match s with | .Assign [.Subscript a b _] e _ => notComp e && mE T N sc (.bl true) e && mE T N sc o a && mE T N sc i b | _ => false)
  | .pass, s => (match s with | .Pass _ => true | .Expr (.Constant (.str _) _ _) _ => true | _ => false)
  | _, _ => false
def mSs (T : Tb) (N : List Str) (sc : Scope) : Ss → List Stmt → Bool
  | .nil, ss => ss.isEmpty
  | .cons (.freeze _) ms, ss => mSs T N sc ms ss
  | .cons (.share _) ms, ss => mSs T N sc ms ss
  | .cons m ms, ss => (match ss with | s :: r => mS T N sc m s && mSs T N sc ms r | [] => false)
end
theorem star_is (a : Expr) : (match a with | .Starred _ _ => true | _ => false) = !notStar a := by
  cases a <;> rfl
theorem swap2 {x y : Str} {px py pt pt2 : Pos} {kt : _} {k2 : _} {a b : Expr} {env : PySem.Env} (hk : env.blockKind = .function) (hx : env.kindOf x = some .local) (hy : env.kindOf y = some .local) (hl : (py.line == px.line) = true) (hne : x ≠ y)
    (ha : notStar a = true) (hb : notStar b = true) (hf : ([a, b].all (foldedForSure 8)) = false) (hc : ([a, b].all (constantsAlone 8)) = false) :
    swappedStores [.Tuple [.Name x px, .Name y py] kt pt] (.Tuple [a, b] k2 pt2) env = pure (some [x, y]) := by
  have na := star_is a
  rw [ha] at na
  have nb' := star_is b
  rw [hb] at nb'
  have hxy : (y == x) = false := by rw [beq_eq_false_iff_ne]; exact Ne.symm hne
  have e2 : ([x, y].eraseDups).length = 2 := by simp [List.eraseDups, List.eraseDupsBy, List.eraseDupsBy.loop, hxy]
  have hl' : py.line = px.line := eq_of_beq hl
  unfold swappedStores
  have hf' : ¬ (foldedForSure 8 a = true ∧ foldedForSure 8 b = true) := by
    rw [← Bool.and_eq_true]
    simpa using hf
  have hc' : ¬ (constantsAlone 8 a = true ∧ constantsAlone 8 b = true) := by
    rw [← Bool.and_eq_true]
    simpa using hc
  simp [hk, hx, hy, hl', na, nb', e2, List.filterMap, Expr.pos, hf', hc']
  intro h
  rcases h with h | h
  · exact absurd (h.symm.trans na) (by decide)
  · exact absurd (h.symm.trans nb') (by decide)
/-- a, b = x, y with two names of the def -/
theorem p_par2 {X : Cx} {G : Gx} {i j : Nat} {x y : Str} {a b : Expr} {fs : Env → Store → Option (List D × Store)} {px py pt pt2 pos : Pos} {kt k2 : Nat} (hcalm : X.calm = true) (hN : X.N.Nodup) (hi : X.N[i]? = some x) (hj : X.N[j]? = some y) (hij : i ≠ j)
    (hx : X.env.scope.names.lookup x = some .local) (hy : X.env.scope.names.lookup y = some .local) (ha : PA X [a, b] (tAf G fs)) (hk : X.env.blockKind = .function) (hl : (py.line == px.line) = true)
    (na : notStar a = true) (nb : notStar b = true) (hf : ([a, b].all (foldedForSure 8)) = false) (hc : ([a, b].all (constantsAlone 8)) = false) :
    PS X (.Assign [.Tuple [.Name x px, .Name y py] kt pt] (.Tuple [a, b] k2 pt2) pos) (tSf G fun ρ S => (fs ρ S).bind fun x => (putVs ρ [i, j] x.1).map fun ρ1 => .nx ρ1 x.2) := by
  have hne : x ≠ y := fun e => hij (by
    have h1 := (List.getElem?_eq_some_iff.mp hi).1
    exact (List.getElem?_inj h1 hN).mp (by rw [hi, hj, e]))
  refine ps_len (ps_par hcalm hN hi hj hij hx hy ha (swap2 hk hx hy hl hne na nb hf hc)) fun D σ H hs h => ?_
  obtain ⟨M, S, ρ, r, rl, en, h, k⟩ := h
  obtain ⟨⟨ds, S1⟩, hd, h⟩ := Option.bind_eq_some_iff.mp h
  obtain ⟨ρ1, hρ, h⟩ := Option.map_eq_some_iff.mp h
  subst h
  refine tAf.mk rl en hd fun vs M1 H1 r1 q1 p1 => ?_
  have e1 := en.ext q1
  match ds, hρ, p1 with
  | [d1, d2], hρ, p1 =>
    obtain ⟨v, _, rfl, pv, w, _, rfl, pw, rfl⟩ := p1
    refine ⟨v, w, rfl, ?_⟩
    have hρ := Option.some.inj (show some (putV (putV ρ i d1) j d2) = some ρ1 from hρ)
    subst hρ
    have li : i < ρ.length := by rw [e1.len, hs]; exact len_of hi
    have lj : j < (putV ρ i d1).length := by rw [show (putV ρ i d1).length = ρ.length from List.length_set, e1.len, hs]; exact len_of hj
    have e2 := e1.putV li pv
    have e3 := e2.putV lj pw
    exact k _ M1 H1 r1 (q1.toS.less fun p z => own_put (own_put z e2.len) e1.len) e3
  | [], hρ, _ => exact nn hρ
  | [_], hρ, _ => exact nn hρ
  | _ :: _ :: _ :: _, hρ, _ => exact nn hρ
/-- a context of statements -/
structure Kb (T : Tb) (G : Gx) (n : Nat) (call : CallF) (X : Cx) (sc : Scope) : Prop extends Kx T G n call X sc where
  fn : ∀ x, X.fn x = true
  own : PassesOwn (model X.prog X.w) X.A X.env X.xe
section
variable {T : Tb} {G : Gx} {n : Nat} {call mk : CallF} {X : Cx} {sc : Scope}
theorem loc_of (k : Kx T G n call X sc) {x : Str} (h : locB sc x = true) : L2.Loc X.env.scope x := by
  rw [k.sc]
  unfold locB at h
  unfold L2.Loc
  split at h <;> first | exact nb h | (rename_i e; rw [e]; simp)
theorem store_of (k : Kx T G n call X sc) {i : Nat} {x : Str} (h : storeB X.N sc i x = true) : X.N[i]? = some x ∧ L2.Loc X.env.scope x := by
  obtain ⟨h1, h2⟩ := and2 h
  obtain ⟨h1, h3⟩ := and2 h1
  exact ⟨of_decide_eq_true h1, loc_of k h3⟩
theorem line_of (k : Kx T G n call X sc) {x : Str} {py : Pos} {e : Expr} (h : onLine sc x py e = true) :
    notComp e = true ∨ (∃ el gs s p, e = .ListComp el gs s p ∧ ((X.env.scope.names.lookup x = some .local ∧ (py.line == p.line) = true ∧ (s.names.any fun (n, k) => n == x && (k == .local || k == .cell)) = false) ∨ X.env.scope.names.lookup x = some .cell)) := by
  cases e with
  | ListComp el gs s p =>
    refine .inr ⟨el, gs, s, p, rfl, ?_⟩
    rw [k.sc]
    have h : ((lclB sc x && (py.line == p.line) && !(s.names.any fun (n, k) => n == x && (k == .local || k == .cell))) || decide (sc.names.lookup x = some .cell)) = true := h
    rw [Bool.or_eq_true] at h
    rcases h with h | h
    · obtain ⟨h1, h2⟩ := and2 h
      obtain ⟨h1, h3⟩ := and2 h1
      refine .inl ⟨?_, h3, by simpa using h2⟩
      unfold lclB at h1
      split at h1
      · rename_i e; exact e
      · exact nb h1
    · exact .inr (of_decide_eq_true h)
  | SetComp _ _ _ _ => exact nb h
  | DictComp _ _ _ _ _ => exact nb h
  | _ => exact .inl rfl
theorem frz_read {fl : Env → Store → Option (List D × Store)} {σ : L2.St} {H : Hp} {Q : VK} (h : tEf G (fun ρ S => (fl ρ S).map fun x => (.lst x.1, x.2)) σ H Q) : tLf G fl σ H Q := by
  obtain ⟨M, S, ρ, d, S', rl, e, h, k⟩ := h
  obtain ⟨x, hx, h⟩ := Option.map_eq_some_iff.mp h
  cases h
  refine ⟨M, S, ρ, x.1, x.2, rl, e, hx, fun p vs M1 H1 r1 x1 p1 hp hn f1 f2 => ?_⟩
  obtain ⟨r2, u2⟩ := rel_freeze r1 hp f1 f2
  refine k _ _ _ r2 ⟨x1.up.trans u2, fun q o h1 h2 h3 => ?_⟩ ⟨p, vs, rfl, upd_same, p1.up u2⟩
  obtain ⟨q1, q2, q3⟩ := x1.fgn q o h1 h2 h3
  refine ⟨q1, ?_, q3⟩
  show upd M1.F p _ q = none
  rw [upd_ne (fun z => by rw [z, hn] at h1; cases h1)]
  exact q2
/-- as setV_read, at the names' length -/
theorem setV_at {i : Nat} {te : TE} {fe : Env → Store → Option (D × Store)} {D : Ends} {σ : L2.St} {H : Hp} (ht : ∀ H Q, tEf G fe σ H Q → te σ H Q) (hi : i < X.N.length) (hs : σ.length = X.N.length)
    (h : tSf G (fun ρ S => (fe ρ S).map fun x => .nx (putV ρ i x.1) x.2) D σ H) : tAsg te (gName i) D σ H := by
  obtain ⟨M, S, ρ, r, rl, en, h, k⟩ := h
  obtain ⟨x, hx, h⟩ := Option.map_eq_some_iff.mp h
  subst h
  refine ht _ _ (tEf.mk rl en hx fun v M1 H1 r1 x1 p1 => ?_)
  have e1 := en.ext x1
  exact k (σ.set i (some v)) M1 H1 r1 (x1.toS.less fun p z => own_put z e1.len) (e1.putV (by rw [e1.len, hs]; exact hi) p1)
theorem setL_at {i : Nat} {te : TE} {fl : Env → Store → Option (List D × Store)} {D : Ends} {σ : L2.St} {H : Hp} (ht : ∀ H Q, tLf G fl σ H Q → te σ H Q) (hi : i < X.N.length) (hs : σ.length = X.N.length)
    (h : tSf G (fun ρ S => (fl ρ S).map fun x => .nx (ρ.set i (.own x.1)) x.2) D σ H) : tAsg te (gName i) D σ H := by
  refine setL_read (X := X) (te := fun σ' H' Q => σ' = σ → te σ H' Q) (fun σ' H' Q h' e => ?_) hi hs h rfl
  subst e
  exact ht _ _ h'
/-- a name is set to a list -/
theorem p_setFrz (k : Kb T G n call X sc) {i : Nat} {x : Str} {py pos : Pos} {e : Expr} {fl : Env → Store → Option (List D × Store)} (hs : storeB X.N sc i x = true) (hl : LOk G X sc e fl) (hn : onLine sc x py e = true) :
    PS X (.Assign [.Name x py] e pos) (tSf G fun ρ S => ((fl ρ S).map fun x => ((.lst x.1, x.2) : D × Store)).map fun x => .nx (putV ρ i x.1) x.2) := by
  obtain ⟨te, _, h2, h3⟩ := hl
  obtain ⟨s1, s2⟩ := store_of k.toKx hs
  exact ps_len (h3 i x py pos s1 s2 (.inl (k.fn x)) (line_of k.toKx hn)) fun D σ H hl h => setV_at (te := te) (fun H' Q h' => h2 _ _ _ hl (frz_read h')) (len_of s1) hl h
theorem p_setL (k : Kb T G n call X sc) {i : Nat} {x : Str} {py pos : Pos} {e : Expr} {fl : Env → Store → Option (List D × Store)} (hs : storeB X.N sc i x = true) (hl : LOk G X sc e fl) (hn : onLine sc x py e = true) :
    PS X (.Assign [.Name x py] e pos) (tSf G fun ρ S => (fl ρ S).map fun x => .nx (ρ.set i (.own x.1)) x.2) := by
  obtain ⟨te, _, h2, h3⟩ := hl
  obtain ⟨s1, s2⟩ := store_of k.toKx hs
  exact ps_len (h3 i x py pos s1 s2 (.inl (k.fn x)) (line_of k.toKx hn)) fun D σ H hl h => setL_at (te := te) (fun H' Q h' => h2 _ _ _ hl h') (len_of s1) hl h
theorem lstAt_some {S : Store} {d : D} {a : Nat} {l : List D} (h : lstAt S d = some (a, l)) : d = .ref a ∧ S[a]? = some (.lst l) := by
  cases d with
  | ref b =>
    have h : (match S[b]? with | some (SO.lst l) => some (b, l) | _ => none) = some (a, l) := h
    cases e : S[b]? with
    | none => rw [e] at h; exact nn h
    | some o =>
      rw [e] at h
      cases o with
      | lst l => cases h; exact ⟨rfl, e⟩
      | ins _ _ => exact nn h
      | dct _ => exact nn h
  | _ => exact nn h
/-- o[i] = e -/
theorem p_setIx {o i e : Expr} {fo fi fe : Env → Store → Option (D × Store)} {pos pos' : Pos} (he : PE X e (tEf G fe)) (ho : PE X o (tEf G fo)) (hi : PE X i (tEf G fi)) (hc : notComp e = true) (ht : notTuple e = true)
    (ha : ∀ v, assign (.Subscript o i pos') X.env v = (do let ov ← holding [v] (eval o X.env); let iv ← holding [v, ov] (eval i X.env); standAt pos'; holding [v, ov, iv] (setItem ov iv v); release [v, ov, iv] [])) :
    PS X (.Assign [.Subscript o i pos'] e pos) (tSf G fun ρ S => (fe ρ S).bind fun x => (fo ρ x.2).bind fun y => (fi ρ y.2).bind fun z => match z.1 with
      | .int k => (lstAt z.2 y.1).bind fun q => (ixN q.2.length k).map fun j => .nx ρ (z.2.set q.1 (.lst (q.2.set j x.1)))
      | _ => none) := by
  refine ps_weak (ps_asg he (pg_sub ho hi set_list ha) (sole_false hc _ _) (stores_none ht _) rfl) fun D σ H h => ?_
  obtain ⟨M, S, ρ, r, rl, en, h, k⟩ := h
  obtain ⟨x, hx, h⟩ := Option.bind_eq_some_iff.mp h
  obtain ⟨y, hy, h⟩ := Option.bind_eq_some_iff.mp h
  obtain ⟨z, hz, h⟩ := Option.bind_eq_some_iff.mp h
  obtain ⟨z1, z2⟩ := z
  cases z1 <;> first | exact nn h | skip
  rename_i j
  obtain ⟨q, hq, h⟩ := Option.bind_eq_some_iff.mp (show (lstAt z2 y.1).bind (fun q => (ixN q.2.length j).map fun j => Fl.nx ρ (z2.set q.1 (.lst (q.2.set j x.1)))) = some r from h)
  obtain ⟨t, ht, h⟩ := Option.map_eq_some_iff.mp h
  subst h
  refine tEf.mk rl en hx fun v M1 H1 r1 x1 p1 => ?_
  refine tEf.mk r1 (en.ext x1) hy fun w M2 H2 r2 x2 p2 => ?_
  refine tEf.mk r2 ((en.ext x1).ext x2) hz fun u M3 H3 r3 x3 p3 => ?_
  have e3 := ((en.ext x1).ext x2).ext x3
  obtain ⟨q1, q2⟩ := q
  obtain ⟨y1, y2⟩ := y
  obtain ⟨e0, hl⟩ := lstAt_some (show lstAt z2 y1 = some (q1, q2) from hq)
  subst e0
  obtain ⟨vs, g1, g2⟩ := (r3.obj _ _ hl).1
  have pa := p2.up x3.up
  obtain ⟨_, pa⟩ := pa
  have pv := (p1.up x2.up).up x3.up
  have hlen := g2.length
  obtain ⟨r4, x4⟩ := rel_set (o := .lst (q2.set t x.1)) (u := .lst (vs.set t v)) r3 (List.getElem?_eq_some_iff.mp hl).1 ⟨_, rfl, g2.set t pv⟩
  refine ⟨_, vs, j, t, pa, p3, g1, by rw [← hlen]; exact ht, ?_⟩
  exact k σ M3 _ r4 (((x1.trans x2).trans x3).trans x4).toS (e3.ext x4)
theorem putK_addK (ks : List (List Int)) (k : List Int) : putK (ks.map fun k => (k.map Sum.inl, V.bl true)) (k.map Sum.inl) (V.bl true) = (addK ks k).map fun k => ((k.map Sum.inl : List L2.Key), V.bl true) := by
  have inj : ∀ a b : List Int, (a.map Sum.inl : List L2.Key) = b.map Sum.inl ↔ a = b := fun a b => List.map_inj_right (fun x y h => Sum.inl.inj h)
  have ha : ((ks.map fun k => ((k.map Sum.inl : List L2.Key), V.bl true)).any fun kv => decide (kv.1 = k.map Sum.inl)) = ks.contains k := by
    rw [List.any_map, Bool.eq_iff_iff, List.any_eq_true, List.contains_iff_mem]
    constructor
    · rintro ⟨x, h1, h2⟩
      have h2 := (inj x k).mp (of_decide_eq_true h2)
      rw [← h2]; exact h1
    · exact fun h => ⟨k, h, decide_eq_true rfl⟩
  unfold putK addK
  rw [ha]
  split
  · rw [List.map_map]
    refine List.map_congr_left fun x _ => ?_
    show (if (x.map Sum.inl : List L2.Key) = k.map Sum.inl then ((x.map Sum.inl : List L2.Key), V.bl true) else (x.map Sum.inl, V.bl true)) = _
    split <;> rfl
  · rw [List.map_append] <;> rfl
theorem addK_len (ks : List (List Int)) (k : List Int) : (addK ks k).length ≤ ks.length + 1 := by
  unfold addK
  split
  · omega
  · rw [List.length_append]; simp
/-- the places of a key's tuple -/
theorem key_rp {M : Mp} {S : Store} {H : Hp} {d : D} {u : V} {k : List Int} (r : Rel G M S H) (p : Rp G M S.length d u) (h : keyD d = some k) : ∃ b, u = .ref b ∧ H b = some (.tup ((k.map Sum.inl).map kV)) := by
  have go : ∀ {l : List D} {vs : List V} {k : List Int}, RpL G M S.length l vs → keyI l = some k → vs = k.map V.int := fun {l} => by
    induction l with
    | nil => exact fun q e => by cases e; exact q
    | cons d l ih =>
      intro vs k q e
      obtain ⟨v, r, e1, q1, q2⟩ := q
      cases d <;> first | exact nn e | skip
      rename_i i
      obtain ⟨k', hk, e⟩ := Option.map_eq_some_iff.mp (show (keyI l).map (i :: ·) = some k from e)
      subst e
      rw [e1, ih q2 hk, show v = V.int i from q1] <;> rfl
  cases d <;> first | exact nn h | skip
  rename_i l
  cases l with
  | nil => exact nn h
  | cons d l =>
    cases d <;> first | exact nn h | skip
    rename_i i
    obtain ⟨b, vs, e, t, q⟩ := p
    have e2 := go q (show keyI (.int i :: l) = some k from h)
    obtain ⟨k', hk, ek⟩ := Option.map_eq_some_iff.mp (show (keyI l).map (i :: ·) = some k from h)
    refine ⟨b, e, ?_⟩
    rw [keyV, ← e2]
    rcases t with t | ⟨_, n⟩
    · exact r.sub _ _ t
    · rw [e2, ← ek] at n
      exact absurd rfl (n i (k'.map V.int))
/-- d[i] = True -/
theorem p_setKey {o i e : Expr} {fo fi : Env → Store → Option (D × Store)} {pos pos' : Pos} (hu : X.A.units + 1 < cLine) (he : PE X e (tEf G fun _ S => some (.bl true, S))) (ho : PE X o (tEf G fo)) (hi : PE X i (tEf G fi)) (hc : notComp e = true) :
    PS X (.Assign [.Subscript o i pos'] e pos) (tSf G fun ρ S => (fo ρ S).bind fun x => (fi ρ x.2).bind fun y => (setKeyD x.1 y.1 y.2).map fun S1 => .nx ρ S1) := by
  refine ps_weak (ps_dput hu ho hi he (sw_false hc _ _ _)) fun D σ H h => ?_
  obtain ⟨M, S, ρ, r, rl, en, h, k⟩ := h
  obtain ⟨x, hx, h⟩ := Option.bind_eq_some_iff.mp h
  obtain ⟨y, hy, h⟩ := Option.bind_eq_some_iff.mp h
  obtain ⟨S1, h1, h⟩ := Option.map_eq_some_iff.mp h
  subst h
  refine tEf.mk (S' := S) rl en rfl fun v M1 H1 r1 x1 p1 => ?_
  refine tEf.mk r1 (en.ext x1) hx fun w M2 H2 r2 x2 p2 => ?_
  refine tEf.mk r2 ((en.ext x1).ext x2) hy fun u M3 H3 r3 x3 p3 => ?_
  have e3 := ((en.ext x1).ext x2).ext x3
  obtain ⟨xd, xs⟩ := x
  obtain ⟨yd, ys⟩ := y
  obtain ⟨a, ea⟩ : ∃ a, xd = .ref a := by cases xd <;> first | exact ⟨_, rfl⟩ | exact nn h1
  subst ea
  have h1 : (match ys[a]? with
    | some (.dct ks) => if ks.length < 16777216 then (keyD yd).map fun k => ys.set a (.dct (addK ks k)) else none
    | _ => none) = some S1 := h1
  split at h1 <;> first | exact nn h1 | skip
  rename_i ks hl
  split at h1 <;> first | exact nn h1 | skip
  rename_i hz
  obtain ⟨kk, hk, h1⟩ := Option.map_eq_some_iff.mp h1
  subst h1
  obtain ⟨⟨g1, g2⟩, _⟩ := r3.obj _ _ hl
  obtain ⟨pa1, pa⟩ := p2.up x3.up
  have pv : v = V.bl true := p1
  subst pv
  obtain ⟨b, eb, hb⟩ := key_rp r3 p3 hk
  subst eb
  have hal := (List.getElem?_eq_some_iff.mp hl).1
  have lk := addK_len ks kk
  obtain ⟨r4, x4⟩ := rel_set (o := .dct (addK ks kk)) (u := .dT (putK (ks.map fun k => (k.map Sum.inl, V.bl true)) (kk.map Sum.inl) (V.bl true))) r3 hal ⟨by rw [putK_addK], by omega⟩
  refine ⟨M3.m a, _, pa, DPut.t g1 hb (by rw [List.length_map, sizeLine_eq]; exact hz), ?_⟩
  exact k σ M3 _ r4 (((x1.trans x2).trans x3).trans x4).toS (e3.ext x4)
/-- v[i] = e, v a name's own list -/
theorem p_setIxOwn {v : Nat} {x : Str} {px : Pos} {i e : Expr} {fi fe : Env → Store → Option (D × Store)} {pos pos' : Pos} (hN : X.N[v]? = some x) (hv : Vis X.env.scope x) (hd : (x == ("__debug__" : Str)) = false) (hcd : (x == ("__classdict__" : Str)) = false) (he : PE X e (tEf G fe)) (hi : PE X i (tEf G fi)) (hc : notComp e = true) (ht : notTuple e = true)
    (ha : ∀ w, assign (.Subscript (.Name x px) i pos') X.env w = (do let ov ← holding [w] (eval (.Name x px) X.env); let iv ← holding [w, ov] (eval i X.env); standAt pos'; holding [w, ov, iv] (setItem ov iv w); release [w, ov, iv] [])) :
    PS X (.Assign [.Subscript (.Name x px) i pos'] e pos) (tSf G fun ρ S => (fe ρ S).bind fun x => (fi ρ x.2).bind fun z => (getO ρ v).bind fun l => match z.1 with
      | .int k => (ixN l.length k).map fun j => .nx (ρ.set v (.own (l.set j x.1))) z.2
      | _ => none) := by
  refine ps_weak (ps_asg he (pg_sub (pe_var hN hv hd hcd) hi set_list ha) (sole_false hc _ _) (stores_none ht _) rfl) fun D σ H h => ?_
  obtain ⟨M, S, ρ, r, rl, en, h, k⟩ := h
  obtain ⟨x, hx, h⟩ := Option.bind_eq_some_iff.mp h
  obtain ⟨z, hz, h⟩ := Option.bind_eq_some_iff.mp h
  obtain ⟨l, hl, h⟩ := Option.bind_eq_some_iff.mp h
  obtain ⟨z1, z2⟩ := z
  cases z1 with
  | int j =>
    obtain ⟨t, ht, h⟩ := Option.map_eq_some_iff.mp (show (ixN l.length j).map (fun j => Fl.nx (ρ.set v (.own (l.set j x.1))) z2) = some r from h)
    subst h
    obtain ⟨h0, p, vs, h1, h2, h3, h4, h5⟩ := en.getO hl
    refine tEf.mk rl en hx fun w M1 H1 r1 x1 p1 => ?_
    have e1 := en.ext x1
    refine ⟨.ref p, h1, tEf.mk r1 e1 hz fun u M2 H2 r2 x2 p2 => ?_⟩
    have e2 := e1.ext x2
    obtain ⟨q1, q2, q3⟩ := (x1.trans x2).fgn p _ h2 h4 h5
    have hlen := h3.length
    have pp := h3.up (x1.trans x2).up
    obtain ⟨a1, a2, a3⟩ := own_touch (l' := l.set t x.1) (vs' := vs.set t w) r2 e2 h0 h1 q2 q3 (pp.set t (p1.up x2.up))
    refine ⟨p, vs, j, t, rfl, p2, q1, by rw [← hlen]; exact ht, ?_⟩
    exact k σ M2 _ a1 ((x1.trans x2).toS.trans a2) a3
  | _ => exact nn h
theorem locB_fn (k : Kb T G n call X sc) : ∀ x, locB sc x = true → L2.Loc X.env.scope x ∧ (X.fn x = true ∨ X.env.scope.names.lookup x = some .local) := fun x h => ⟨loc_of k.toKx h, .inl (k.fn x)⟩
theorem name_of {N : List Str} {nm : Str → Bool} {is : List Nat} {t : Expr} (h : tgOk N nm true is t = true) : ∃ x p, t = .Name x p := by
  cases t with
  | Name x p => exact ⟨x, p, rfl⟩
  | _ =>
    exfalso
    unfold tgOk at h
    split at h <;> simp_all
theorem tgt1 {N : List Str} {nm : Str → Bool} {one : Bool} {is : List Nat} {t : Expr} (h : tgOk N nm one is t = true) (env : PySem.Env) : (assignEach [t] env).map (·.2) = [assign t env] := by
  cases one with
  | true =>
    obtain ⟨x, p, e⟩ := name_of h
    subst e
    rfl
  | false =>
    obtain ⟨es, j, p, e⟩ := tup_of h
    subst e
    rfl
mutual
theorem okS : ∀ (m : St) (s : Stmt) (X : Cx) (sc : Scope), Kb T G n call X sc → mS T X.N sc m s = true → PS X s (tSf G (exS T.prg call mk m))
  | .expr m, s, X, sc, k, h => by
    cases s <;> first | exact nb h | skip
    obtain ⟨h1, h2⟩ := and2 h
    exact p_expr (okE m _ X sc k.toKx h2) h1
  | .set i m, s, X, sc, k, h => by
    cases s <;> first | exact nb h | skip
    rename_i ts e pos
    cases ts <;> first | exact nb h | skip
    rename_i t r
    cases r <;> cases t <;> first | exact nb h | skip
    rename_i x py
    obtain ⟨h1, h2⟩ := and2 h
    obtain ⟨s1, s2⟩ := store_of k.toKx h1
    have gen : (notComp e && mE T X.N sc m e) = true → PS X (.Assign [.Name x py] e pos) (tSf G (exS T.prg call mk (.set i m))) := fun h => by
      obtain ⟨a1, a2⟩ := and2 h
      exact p_set (ps_set k.nd s1 s2 (okE m _ X sc k.toKx a2) (sw_false a1 _ _ _) (.inl (k.fn x))) s1 fun _ _ _ z => z
    cases m with
    | frz l =>
      obtain ⟨a1, a2⟩ := and2 h2
      exact p_setFrz k h1 (okL l e X sc k.toKx a1) a2
    | _ => exact gen h2
  | .setOwn i l, s, X, sc, k, h => by
    cases s <;> first | exact nb h | skip
    rename_i ts e pos
    cases ts <;> first | exact nb h | skip
    rename_i t r
    cases r <;> cases t <;> first | exact nb h | skip
    obtain ⟨h1, h3⟩ := and2 h
    obtain ⟨h1, h2⟩ := and2 h1
    exact p_setL k h1 (okL l e X sc k.toKx h2) h3
  | .setT is m, s, X, sc, k, h => by
    cases s <;> first | exact nb h | skip
    rename_i ts e pos
    cases ts <;> first | exact nb h | skip
    rename_i t r
    cases r <;> cases t <;> first | exact nb h | skip
    obtain ⟨h1, h4⟩ := and2 h
    obtain ⟨h1, h3⟩ := and2 h1
    obtain ⟨h1, h2⟩ := and2 h1
    obtain ⟨g1, g2⟩ := pg_of k.calm k.nd (locB_fn k) h1
    refine p_setT k.K (okE m _ X sc k.toKx h4) g1 g2 h2 ?_ rfl
    rw [k.sc]
    rcases (Bool.or_eq_true _ _).mp h3 with q | q
    · exact .inl q
    · exact .inr q
  | .setL is m, s, X, sc, k, h => by
    cases s <;> first | exact nb h | skip
    rename_i ts e pos
    cases ts <;> first | exact nb h | skip
    rename_i t r
    cases r <;> cases t <;> first | exact nb h | skip
    obtain ⟨h1, h4⟩ := and2 h
    obtain ⟨h1, h3⟩ := and2 h1
    obtain ⟨h1, h2⟩ := and2 h1
    obtain ⟨g1, g2⟩ := pg_of k.calm k.nd (locB_fn k) h1
    exact p_setLs (okE m _ X sc k.toKx h4) (pg_ofL k.calm k.nd (locB_fn k) h1) k.K g2 h2 h3 rfl
  | .aug i op m, s, X, sc, k, h => by
    cases s <;> first | exact nb h | skip
    rename_i t o e pos
    cases t <;> first | exact nb h | skip
    rename_i x px
    obtain ⟨h1, h4⟩ := and2 h
    obtain ⟨h1, h3⟩ := and2 h1
    obtain ⟨s1, s2⟩ := store_of k.toKx h1
    exact p_aug k.nd s1 s2 (okE m _ X sc k.toKx h4) h3 (.inl (k.fn x))
  | .appOwn v m, s, X, sc, k, h => by
    cases s <;> first | exact nb h | skip
    rename_i e pos
    cases e <;> first | exact nb h | skip
    rename_i f es ks p
    cases f <;> first | exact nb h | skip
    rename_i o a ap
    cases o <;> first | exact nb h | skip
    rename_i x px
    cases es <;> first | exact nb h | skip
    rename_i e r
    cases r <;> cases ks <;> first | exact nb h | skip
    obtain ⟨h1, h5⟩ := and2 h
    obtain ⟨h1, h4⟩ := and2 h1
    obtain ⟨h1, h3⟩ := and2 h1
    obtain ⟨h1, h2⟩ := and2 h1
    have e := of_decide_eq_true h1
    subst e
    obtain ⟨v1, v2, v3, v4⟩ := var_of k.toKx h2
    exact p_appOwn v1 v2 v3 v4 (okE m _ X sc k.toKx h5) h3 h4
  | .extOwn v m, s, X, sc, k, h => by
    cases s <;> first | exact nb h | skip
    rename_i e pos
    cases e <;> first | exact nb h | skip
    rename_i f es ks p
    cases f <;> first | exact nb h | skip
    rename_i o a ap
    cases o <;> first | exact nb h | skip
    rename_i x px
    cases es <;> first | exact nb h | skip
    rename_i e r
    cases r <;> cases ks <;> first | exact nb h | skip
    obtain ⟨h1, h5⟩ := and2 h
    obtain ⟨h1, h4⟩ := and2 h1
    obtain ⟨h1, h3⟩ := and2 h1
    obtain ⟨h1, h2⟩ := and2 h1
    have e := of_decide_eq_true h1
    subst e
    obtain ⟨v1, v2, v3, v4⟩ := var_of k.toKx h2
    exact p_extOwn v1 v2 v3 v4 (okE m _ X sc k.toKx h5) h3 h4
  | .popOwn i v, s, X, sc, k, h => by
    cases s <;> first | exact nb h | skip
    rename_i ts e pos
    cases ts <;> first | exact nb h | skip
    rename_i t r
    cases r <;> cases t <;> cases e <;> first | exact nb h | skip
    rename_i y py f es ks p
    cases f <;> first | exact nb h | skip
    rename_i o a ap
    cases o <;> first | exact nb h | skip
    cases es <;> cases ks <;> first | exact nb h | skip
    obtain ⟨h1, h4⟩ := and2 h
    obtain ⟨h1, h3⟩ := and2 h1
    obtain ⟨h1, h2⟩ := and2 h1
    have e := of_decide_eq_true h1
    subst e
    obtain ⟨v1, v2, v3, v4⟩ := var_of k.toKx h2
    obtain ⟨s1, s2⟩ := store_of k.toKx h3
    exact p_popOwn k.nd s1 s2 (.inl (k.fn _)) v1 v2 v3 v4 h4
  | .setIx o i m, s, X, sc, k, h => by
    cases s <;> first | exact nb h | skip
    rename_i ts e pos
    cases ts <;> first | exact nb h | skip
    rename_i t r
    cases r <;> cases t <;> first | exact nb h | skip
    rename_i a b p
    obtain ⟨h1, h6⟩ := and2 h
    obtain ⟨h1, h5⟩ := and2 h1
    obtain ⟨h1, h4⟩ := and2 h1
    obtain ⟨h1, h3⟩ := and2 h1
    obtain ⟨h1, h2⟩ := and2 h1
    exact p_setIx (okE m _ X sc k.toKx h4) (okE o _ X sc k.toKx h5) (okE i _ X sc k.toKx h6) h2 h3 fun v => by
      cases b <;> first | rfl | exact nb h1
  | .setIxOwn v i m, s, X, sc, k, h => by
    cases s <;> first | exact nb h | skip
    rename_i ts e pos
    cases ts <;> first | exact nb h | skip
    rename_i t r
    cases t <;> first | exact nb h | skip
    rename_i a b p
    cases a <;> first | exact nb h | skip
    cases r <;> first | exact nb h | skip
    obtain ⟨h1, h6⟩ := and2 h
    obtain ⟨h1, h5⟩ := and2 h1
    obtain ⟨h1, h4⟩ := and2 h1
    obtain ⟨h1, h3⟩ := and2 h1
    obtain ⟨h1, h2⟩ := and2 h1
    obtain ⟨v1, v2, v3, v4⟩ := var_of k.toKx h4
    exact p_setIxOwn v1 v2 v3 v4 (okE m _ X sc k.toKx h5) (okE i _ X sc k.toKx h6) h2 h3 fun v => by
      cases b <;> first | rfl | exact nb h1
  | .ite c a b, s, X, sc, k, h => by
    cases s <;> first | exact nb h | skip
    obtain ⟨h1, h3⟩ := and2 h
    obtain ⟨h1, h2⟩ := and2 h1
    exact p_ite (okT c _ X sc k.toKx h1) (okSs a _ X sc k h2) (okSs b _ X sc k h3)
  | .forS tg one it body, s, X, sc, k, h => by
    cases s <;> first | exact nb h | skip
    rename_i t i b els pos
    cases els <;> first | exact nb h | skip
    obtain ⟨h1, h4⟩ := and2 h
    obtain ⟨h1, h3⟩ := and2 h1
    obtain ⟨h1, h2⟩ := and2 h1
    obtain ⟨g1, g2⟩ := pg_of k.calm k.nd (locB_fn k) h1
    exact p_for k.K k.own k.calm (okI it i one X sc t k.toKx h3 fun e => by subst e; exact tup_of h1) g1 g2 (okSs body _ X sc k h4) (nofold h2 _)
  | .while c body, s, X, sc, k, h => by
    cases s <;> first | exact nb h | skip
    rename_i t b els pos
    cases els <;> first | exact nb h | skip
    obtain ⟨h1, h2⟩ := and2 h
    exact p_while k.own (okT c _ X sc k.toKx h1) (okSs body _ X sc k h2)
  | .ret m, s, X, sc, k, h => by
    cases s <;> first | exact nb h | skip
    rename_i e p
    cases e <;> first | exact nb h | skip
    exact p_ret (okE m _ X sc k.toKx h)
  | .retN, s, X, sc, k, h => by
    cases s <;> first | exact nb h | skip
    rename_i e p
    cases e <;> first | exact nb h | skip
    exact p_retN
  | .dset, s, X, sc, k, h => ⟨fun pins st σ H D I z => by
    obtain ⟨_, _, _, _, _, _, z, _⟩ := z
    exact nn z⟩
  | .setKey o i, s, X, sc, k, h => by
    cases s <;> first | exact nb h | skip
    rename_i ts e pos
    cases ts <;> first | exact nb h | skip
    rename_i t r
    cases r <;> cases t <;> first | exact nb h | skip
    rename_i a b pos'
    obtain ⟨h1, h4⟩ := and2 h
    obtain ⟨h1, h3⟩ := and2 h1
    obtain ⟨h1, h2⟩ := and2 h1
    exact p_setKey (by have := k.hu; omega) (okE (mk := mk) (.bl true) e X sc k.toKx h2) (okE o a X sc k.toKx h3) (okE i b X sc k.toKx h4) h1
  | .pass, s, X, sc, k, h => by
    cases s <;> first | exact nb h | skip
    · rename_i e p
      cases e <;> first | exact nb h | skip
      rename_i c j p
      cases c <;> first | exact nb h | skip
      exact p_doc
    · exact p_pass
  | .par is es, s, X, sc, k, h => by
    obtain ⟨i, j, x, y, px, py, kt, pt, a, b, k2, pt2, pos, rfl, rfl, h⟩ := parB_inv h
    obtain ⟨h1, h⟩ := and2 h
    obtain ⟨h2, h⟩ := and2 h
    obtain ⟨h3, h⟩ := and2 h
    obtain ⟨h4, h⟩ := and2 h
    obtain ⟨h5, h⟩ := and2 h
    obtain ⟨h6, h⟩ := and2 h
    obtain ⟨h7, h⟩ := and2 h
    obtain ⟨h8, h⟩ := and2 h
    obtain ⟨h9, h⟩ := and2 h
    obtain ⟨h10, h⟩ := and2 h
    have lcl : ∀ z, lclB sc z = true → X.env.scope.names.lookup z = some .local := fun z hz => by
      rw [k.sc]
      unfold lclB at hz
      split at hz
      · rename_i e; exact e
      · exact nb hz
    have hb : X.env.blockKind = .function := by
      unfold Env.blockKind
      rw [k.sc, k.kind]
      rfl
    exact p_par2 k.calm k.nd (of_decide_eq_true h1) (of_decide_eq_true h2) (of_decide_eq_true h3) (lcl x h4) (lcl y h5) (okEs es [a, b] X sc k.toKx h).1 hb h6 h7 h8 (by rw [Bool.not_eq_true'] at h9; exact h9) (by rw [Bool.not_eq_true'] at h10; exact h10)
  | .setF _ _ _ _, _, _, _, _, h => nb h
  | .augF _ _ _ _ _, _, _, _, _, h => nb h
  | .share _, _, _, _, _, h => nb h
  | .freeze _, _, _, _, _, h => nb h
theorem okSs : ∀ (ms : Ss) (ss : List Stmt) (X : Cx) (sc : Scope), Kb T G n call X sc → mSs T X.N sc ms ss = true → PSs X ss (tSf G (exSs T.prg call mk ms))
  | .nil, ss, X, sc, k, h => by
    cases ss with
    | nil => exact p_nil
    | cons _ _ => exact nb h
  | .cons m ms, ss, X, sc, k, h => by
    have gen : ∀ s r, (mS T X.N sc m s && mSs T X.N sc ms r) = true → PSs X (s :: r) (tSf G (exSs T.prg call mk (.cons m ms))) := fun s r h => by
      obtain ⟨h1, h2⟩ := and2 h
      exact p_cons (okS m s X sc k h1) (okSs ms r X sc k h2)
    cases m with
    | freeze i => exact p_ghost (okSs ms ss X sc k h) g_freeze
    | share i => exact p_ghost (okSs ms ss X sc k h) g_share
    | _ =>
      cases ss with
      | nil => exact nb h
      | cons s r => exact gen s r h
end
end
end HN

/-! A def of the text, and all defs together: each does what callF says, at every number of nested calls. -/
namespace HN
open PySem L2
section
variable {T : Tb} {G : Gx} {n : Nat} {call mk : CallF} {P : Program} {w : World} {mg : Str → Option Value} {base : Heap}
theorem env_start {M : Mp} {S : Store} {H : Hp} {N : List Str} {ds : List D} {vs : List V} (h : RpL G M S.length ds vs) (hl : vs.length ≤ N.length) : EnvR G M S H (L2.start N vs) (startD N.length ds) := by
  have e := h.length
  have nol : ∀ (i : Nat) (l : List D), (startD N.length ds)[i]? ≠ some (.own l) := fun i l q => by
    unfold startD at q
    by_cases hi : i < ds.length
    · rw [List.getElem?_append_left (by simpa using hi), List.getElem?_map] at q
      rw [List.getElem?_eq_getElem hi] at q
      cases q
    · rw [List.getElem?_append_right (by simpa using hi), List.getElem?_replicate] at q
      split at q <;> cases q
  refine ⟨by unfold L2.start startD; simp [e], fun i s q => ?_, fun i j l l' p q => absurd q (nol i l)⟩
  unfold startD at q
  by_cases hi : i < ds.length
  · rw [List.getElem?_append_left (by simpa using hi), List.getElem?_map, List.getElem?_eq_getElem hi] at q
    cases q
    obtain ⟨v, v1, v2⟩ := h.get (List.getElem?_eq_getElem hi)
    refine ⟨v, ?_, v2⟩
    unfold L2.start
    rw [List.getElem?_append_left (by simpa [← e] using hi), List.getElem?_map, v1] <;> rfl
  · rw [List.getElem?_append_right (by simpa using hi), List.getElem?_replicate] at q
    split at q
    · cases q; exact True.intro
    · cases q
theorem no_own {M : Mp} {N : List Str} {ds : List D} {σ : L2.St} {p : Addr} : ¬ Own σ (startD N.length ds) p := fun ⟨i, l, q, _⟩ => by
  unfold startD at q
  by_cases hi : i < ds.length
  · rw [List.getElem?_append_left (by simpa using hi), List.getElem?_map, List.getElem?_eq_getElem hi] at q
    cases q
  · rw [List.getElem?_append_right (by simpa using hi), List.getElem?_replicate] at q
    split at q <;> cases q
/-- behind a body -/
theorem gc_ok {M M' : Mp} {S S1 S' : Store} {H H' : Hp} {d d1 : D} {v : V} (r : Rel G M S H) (x : Ext M S H M' S1 H') (r' : Rel G M' S1 H') (p : Rp G M' S1.length d1 v) (h : gcD S (d1, S1) = (d, S')) : Rel G M' S' H' ∧ Ext M S H M' S' H' ∧ Rp G M' S'.length d v := by
  unfold gcD at h
  split at h
  · rename_i c
    cases h
    obtain ⟨a, b⟩ := rel_gc r x r' c.1
    exact ⟨a, b, p.down c.2⟩
  · cases h
    exact ⟨r', x, p⟩
theorem def_ok {x qual : Str} {dvs : List V} {kws : List (Str × V)} {st : Stmt} {f : Addr} {fd : FuncData} {N ps : List Str} {ms : Ss} (Fc : Facts T G P w mg base n call) (F : FunD G.K x qual (defArgs st) (defBody st) (defScope st) dvs kws f fd) (hs : C8.scC N ps (defScope st) = true) (hm : mSs T N (defScope st) ms (defBody st) = true) :
    FnG P w G.K mg base (n + 1) f fd ps (spF G ps.length (runD T.prg call mk ⟨ps.length, N.length, ms⟩)) := by
  have hS := C8.fnScope_by hs
  have hpl : ps.length ≤ N.length := by have := congrArg List.length hS.pre; rw [List.length_take] at this; omega
  refine g_def F hS (fun vs H Q E h => ?_) (fun cdv A outer s H vs Q E hr hgd h => ?_)
  · obtain ⟨M, S, ds, d, S', h, _⟩ := h
    exact h
  · obtain ⟨M, S, ds, d, S', hl, rl, rp, hrun, k⟩ := h
    unfold runD at hrun
    split at hrun
    case isFalse => cases hrun
    rename_i hl2
    obtain ⟨r, hx, hg⟩ := Option.map_eq_some_iff.mp hrun
    have kb : Kb T G n call (cxOf CX0 P w G.K mg base N qual (defScope st) f cdv A outer s H E).nox (defScope st) :=
      { K := rfl, calm := rfl, nd := hS.nd, kind := hS.kind, sc := rfl, room := hr, gd := hgd, fc := Fc, fn := fun _ => rfl, own := fun _ _ h => h.elim }
    refine ⟨_, (okSs (mk := mk) ms (defBody st) _ (defScope st) kb hm).nox, M, S, startD N.length ds, r, rl, env_start rp (by omega), hx, ?_⟩
    cases r with
    | nx ρ1 S1 =>
      intro σ' M' H' r' x' e'
      have x2 : Ext M S H M' S1 H' := ⟨x'.up, fun p o h1 h2 h3 => let ⟨q1, q2, q3, _⟩ := x'.fgn p o h1 h2 h3 (no_own (M := M)); ⟨q1, q2, q3⟩⟩
      obtain ⟨a, b, c⟩ := gc_ok (d1 := .non) (v := .non) rl x2 r' rfl hg
      exact k _ M' H' a b c
    | rt d1 S1 =>
      intro v M' H' r' x' p'
      have x2 : Ext M S H M' S1 H' := ⟨x'.up, fun p o h1 h2 h3 => x'.fgn p o h1 h2 h3 (no_own (M := M))⟩
      obtain ⟨a, b, c⟩ := gc_ok rl x2 r' p' hg
      exact k _ M' H' a b c
end
/-! ### all defs -/
/-- the text's facts: where the defs stand, how they bind, what the globals are -/
structure Txt (T : Tb) (defs : Nat → Option FD) (G : Gx) (w : World) (mg : Str → Option Value) : Prop where
  fn : ∀ f, T.isFn f = true → ∃ (fa : Addr) (fd : FuncData) (x qual : Str) (dvs : List V) (kws : List (Str × V)) (st : Stmt) (N : List Str) (ms : Ss), mg (T.fname f) = some (.ref fa) ∧ FunD G.K x qual (defArgs st) (defBody st) (defScope st) dvs kws fa fd ∧ defs f = some ⟨(T.params f).length, N.length, ms⟩ ∧
    C8.scC N (T.params f) (defScope st) = true ∧ mSs T N (defScope st) ms (defBody st) = true ∧
    (T.kwn f = 0 → Binds G.K fd (T.params f) []) ∧ (T.kwn f ≠ 0 → KBinds G.K fd (T.params f) ((T.params f).drop ((T.params f).length - T.kwn f)) (kwG ((T.params f).drop ((T.params f).length - T.kwn f)).length) (kwG ((T.params f).drop ((T.params f).length - T.kwn f)).length))
  len : ∀ f d, defs f = some d → d.params = (T.params f).length
  glob : ∀ g d x, T.prg.glob g = some d → x ∈ T.gname g → ∃ v u, mg x = some u ∧ RelV v u ∧ ∀ (M : Mp) (n : Nat), Rp G M n d v
  gd : ∀ g k d, (T.prg.gdict g).lookup k = some d → ∃ p v, mg (T.dname g) = some (.ref p) ∧ KDct G.K w p k v ∧ ∀ (M : Mp) (n : Nat), Rp G M n d v
  bi : ∀ x ∈ biAll, mg x = none
theorem facts {T : Tb} {defs : Nat → Option FD} {G : Gx} {P : Program} {w : World} {mg : Str → Option Value} {base : Heap} (t : Txt T defs G w mg) : ∀ n, Facts T G P w mg base n (callF T.prg defs n)
  | 0 => by
    refine ⟨fun f hf => ?_, fun _ _ _ _ h => nn h, t.glob, t.gd, t.bi⟩
    obtain ⟨fa, fd, _, qual, _, _, st, N, ms, h1, h2, _, _, _, h6, h7⟩ := t.fn f hf
    have no : ∀ vs H Q E, ¬ spF G (T.params f).length (callF T.prg defs 0 f) vs H Q E := fun vs H Q E h => by
      obtain ⟨M, S, ds, d, S', _, _, _, h, _⟩ := h
      exact nn h
    exact ⟨fa, fd, h1, h2.kp, ⟨fun vs H Q E h => absurd h (no vs H Q E), fun A outer s H args us vs Q E _ _ _ _ _ h => absurd h (no vs H Q E)⟩, h6, h7⟩
  | n + 1 => by
    have ih := facts (P := P) (base := base) t n
    refine ⟨fun f hf => ?_, fun f ds S r h => ?_, t.glob, t.gd, t.bi⟩
    · obtain ⟨fa, fd, _, qual, _, _, st, N, ms, h1, h2, h3, h4, h5, h6, h7⟩ := t.fn f hf
      refine ⟨fa, fd, h1, h2.kp, (def_ok (mk := (callP T.prg defs n).2) ih h2 h4 h5).imp fun vs H Q E h => ?_, h6, h7⟩
      obtain ⟨M, S, ds, d, S', a, b, c, h, e⟩ := h
      refine ⟨M, S, ds, d, S', a, b, c, ?_, e⟩
      obtain ⟨q, hq, h⟩ := Option.bind_eq_some_iff.mp (show (defs f).bind (fun d => runD T.prg (callP T.prg defs n).1 (callP T.prg defs n).2 d ds S) = some (d, S') from h)
      rw [h3] at hq
      cases hq
      exact h
    · obtain ⟨q, hq, h⟩ := Option.bind_eq_some_iff.mp (show (defs f).bind (fun d => runD T.prg (callP T.prg defs n).1 (callP T.prg defs n).2 d ds S) = some r from h)
      unfold runD at h
      split at h
      · rename_i c
        rw [c]; exact t.len f q hq
      · cases h
theorem kw_binds {K : PySem.W.Frag} {x qual : Str} {params : Arguments} {body : List Stmt} {scope : Scope} {f : Addr} {fd : FuncData} {ps ks : List Str} (m kw : Nat) (F : FunD K x qual params body scope [] [] f fd) (hp : ps.length = m + kw + 1)
    (h : ∀ (kV doc pm : Value) (an : Option Addr) (cdv ct : Value) (us ws : List Value), us.length = m + 1 → ws.length = kw → bindArgs (PySem.W.fnOf x qual params body scope .none kV doc pm an cdv ct) ⟨us, ks.zip ws⟩ = pure (ps.zip (us ++ ws))) : KBinds K fd ps ks (kwG kw) (kwG kw) := by
  obtain ⟨oc, od, dV, kV, doc, pm, an, cdv, ct, osl, rfl, lk, hcd, hD, hK⟩ := F.ex
  rcases hD with ⟨_, rfl⟩ | ⟨e, _⟩
  · refine ⟨fun s us ws _ hl => ?_, fun {vs us zs ws} r rz => ?_⟩
    · by_cases hw : ws.length = kw
      · rw [kwG_eq hw] at hl ⊢
        rw [List.length_append] at hl
        exact .of_eq (h kV doc pm an cdv ct us ws (by omega) hw)
      · have e : kwG kw us ws = [] := if_neg hw
        rw [e] at hl
        rw [hp] at hl
        exact absurd hl (by simp)
    · unfold kwG
      have e := rz.length
      by_cases hw : ws.length = kw
      · rw [if_pos hw, if_pos (by omega)]
        exact r.append rz
      · rw [if_neg hw, if_neg (by omega)]
        exact .nil
  · exact absurd rfl e
end HN

/-! The law's head, where no repr is under way. -/
namespace HN
open PySem PySem.Spec PyProof.Rows L2
/-- the call of the law at the heap behind the top, the script told by H -/
theorem g_core {P : Program} {w : World} {K : PySem.W.Frag} {mg mb : Str → Option Value} {n : Nat} {fa a : Addr} {fd : FuncData} {x : Str} {sp : Sp} {st : Shared} {vs : List Value} {ns : List Int} (kx : K.In st.heap) (g1 : st.heap.Ns mainGlobals mg) (g2 : st.heap.Ns builtinsNs mb) (g3 : ∀ y : Str, y ≠ "__name__" → mb y = bootBuiltins y)
    (g4 : st.heap.NoLimit) (g5 : st.gens = #[]) (ha : st.heap.get? a = some { cls := .type "list", data := .seq vs.toArray }) (hr : Room n callerA) (F : ∀ b : Heap, K.In b → b.Ns mainGlobals mg → FnG P w K mg b n fa fd [x] sp) (hbind : ∀ (s : Shared) (u : Value), BindsTo s fd ⟨[u], []⟩ [(x, u)])
    (H : Hp) (only : Only H) (hsp : sp [.ref a] H (fun v _ => v = .bl true) fun _ _ _ => False) (hok : HOk P w H st.heap) (hA : ∀ b, H b ≠ none → b = a) (hK : H a ≠ none → K.lookup a = none) :
    codeAny (model P w) callerA (.call (.ref fa) ⟨[.ref a], []⟩) (fun r s' => r = .ok (.ret (.bool true)) ∧ OldK st.heap s'.heap ∧ s'.os = st.os ∧ AllBare s'.gens) st := by
  have keep : ∀ {b : Addr} {o : Obj}, st.heap.get? b = some o → H b = none → (hidT st.heap H).get? b = some o := fun e z => hidT_get e z
  have free : ∀ {b : Addr}, b ≠ a → H b = none := fun {b} hb => Decidable.byContradiction fun z => hb (hA b z)
  have isl : ∀ {b : Addr} {o : Obj} {es : Array DictEntry} {ep : Nat}, st.heap.get? b = some o → o.data = .dict es ep → H b = none := fun {b o es ep} e d => free fun z => by
    rw [z, ha] at e
    cases e
    exact nomatch (show Data.seq vs.toArray _ = Data.dict es ep from d)
  have nsk : ∀ {b : Addr} {m : Str → Option Value}, st.heap.Ns b m → (hidT st.heap H).Ns b m := fun z => by
    obtain ⟨o, es, ep, e, d, r⟩ := z
    exact ⟨o, es, ep, keep e (isl e d), d, r⟩
  have kb : K.In (hidT st.heap H) := fun b o e => keep (kx b o e) (Decidable.byContradiction fun z => by
    have hb := hA b z
    subst hb
    exact nomatch (hK z).symm.trans e)
  obtain ⟨mc, m1, m2⟩ := g4
  have e0 : Env0 P w K mg (hidT st.heap H) callerA [] st H :=
    { frames := rfl, mod := ⟨kb, nsk g1, ⟨mb, nsk g2, g3⟩, ⟨mc, nsk m1, m2⟩⟩, bs := fun b o e => of_hidT e, bsz := Nat.le_of_eq (hidT_size _ _), funs := trivial, frf := fun b hb => absurd hb List.not_mem_nil, hok := hok, bare := .of_eq g5 }
  refine codeAny_mono ((F _ kb (nsk g1)).run callerA [] st H ⟨[.ref a], []⟩ [.ref a] [.ref a] _ _ hr rfl e0 (hbind st (.ref a)) (.cons rfl .nil) hsp) fun r s' h => ?_
  match r, h with
  | .error e, h => exact False.elim h
  | .ok .next, h => exact h.elim
  | .ok .brk, h => exact h.elim
  | .ok .cont, h => exact h.elim
  | .ok (.ret u), h =>
    obtain ⟨v, H', os, bare, un, hok', rv, q⟩ := h
    cases (show v = .bl true from q)
    cases (show u = Value.bool true from rv)
    refine ⟨rfl, OldK.of_keep fun b o e => ?_, os, bare⟩
    by_cases z : H b = none
    · exact un.keep b o e z (fun y => absurd y List.not_mem_nil) (by simp)
    · rcases only b with z' | ⟨ob, ys, z'⟩
      · exact absurd z' z
      · have l1 := (hok b _ z').1
        have l2 := (hok' b _ (un.frzs b ob _ z')).1
        rw [e] at l1
        cases l1
        exact l2
theorem g_law {P : Program} {w : World} {K : PySem.W.Frag} {mg mb : Str → Option Value} {n : Nat} {fa a : Addr} {fd : FuncData} {x : Str} {sp : Sp} {st : Shared} {vs : List Value} {ns : List Int} (kx : K.In st.heap) (g1 : st.heap.Ns mainGlobals mg) (g2 : st.heap.Ns builtinsNs mb) (g3 : ∀ y : Str, y ≠ "__name__" → mb y = bootBuiltins y)
    (g4 : st.heap.NoLimit) (g5 : st.gens = #[]) (ha : st.heap.get? a = some { cls := .type "list", data := .seq vs.toArray }) (hi : IntsAre vs ns) (hl : ns.length ≤ sizeLine) (hr : Room n callerA) (F : ∀ b : Heap, K.In b → b.Ns mainGlobals mg → FnG P w K mg b n fa fd [x] sp)
    (hbind : ∀ (s : Shared) (u : Value), BindsTo s fd ⟨[u], []⟩ [(x, u)]) (hsp : ∀ H : Hp, Only H → SqL K H a (ns.map V.int) → sp [.ref a] H (fun v _ => v = .bl true) fun _ _ _ => False) :
    codeAny (model P w) callerA (.call (.ref fa) ⟨[.ref a], []⟩) (fun r s' => r = .ok (.ret (.bool true)) ∧ OldK st.heap s'.heap ∧ s'.os = st.os ∧ AllBare s'.gens) st := by
  have rv := vals_ints hi
  have go := g_core (x := x) (ns := ns) kx g1 g2 g3 g4 g5 ha hr F hbind
  by_cases hk : K.lookup a = none
  · let H : Hp := fun b => if b = a then some (.frz { cls := .type "list", data := .seq vs.toArray } (.lst (ns.map V.int))) else none
    have at_ : H a = some (.frz { cls := .type "list", data := .seq vs.toArray } (.lst (ns.map V.int))) := if_pos rfl
    have off : ∀ b, b ≠ a → H b = none := fun b hb => if_neg hb
    have on : Only H := fun b => by
      by_cases hb : b = a
      · subst hb; exact .inr ⟨_, _, at_⟩
      · exact .inl (off b hb)
    refine go H on (hsp H on (.inl (.inr ⟨_, at_⟩))) (fun b u z => ?_) (fun b z => Decidable.byContradiction fun hb => z (off b hb)) fun _ => hk
    by_cases hb : b = a
    · subst hb
      rw [at_] at z
      cases z
      exact ⟨ha, by rw [List.length_map]; exact hl, vs, _, rv, ha⟩
    · rw [off b hb] at z
      cases z
  · obtain ⟨o, ho⟩ := Option.ne_none_iff_exists'.mp hk
    have e := kx a o ho
    rw [ha] at e
    cases e
    refine go (fun _ => none) (fun _ => .inl rfl) (hsp _ (fun _ => .inl rfl) (.inr ⟨_, vs.toArray, _, ho, rfl, rfl, rfl, by rw [List.size_toArray, hi.length]; exact hl, by simpa using rv⟩)) (fun b u z => ?_) (fun b z => absurd rfl z) fun z => absurd rfl z
    exact nomatch (show (none : Option HO) = some u from z)
/-- the goal behind the top -/
theorem g_walk {l : PySem.W.OpenLaw} {m n : Nat} {q : Program} {loose : List Str} {XP : (Str → Option Value) → Heap → Prop} {YP : World → Heap → Prop} {d : DefRec} {K : Params → PySem.W.Frag} {sp : World → Sp} {x : Str} (hn : l.most = some m) (hm : m ≤ sizeLine) (hdf : d.params.defaults = []) (hr : Room n callerA)
    (hY : ∀ (w : World) (h : Heap), YP w h → (K w.params).In h)
    (F : ∀ (w : World) (mg : Str → Option Value) (fa : Addr) (h : Heap), (K w.params).In h → h.Ns mainGlobals mg → mg d.name = some (.ref fa) → ∃ fd : FuncData, (∀ (s : Shared) (u : Value), BindsTo s fd ⟨[u], []⟩ [(x, u)]) ∧ ∀ b : Heap, (K w.params).In b → b.Ns mainGlobals mg → FnG l.prog w (K w.params) mg b n fa fd [x] (sp w))
    (hsp : ∀ (w : World) (H : Hp) (a : Addr) (ns : List Int), ns.length ≤ m → Only H → SqL (K w.params) H a (ns.map V.int) → sp w [.ref a] H (fun v _ => v = .bl true) fun _ _ _ => False) :
    PySem.W.WalkO q loose XP YP l.row.toRowW d [] (fun f vs => PySem.call f vs) := by
  refine Att.attach_call hn hdf fun w _ st mg mb fa _ _ _ _ a vs ns G Y _ _ _ hmg hobj hints hlen hg => ?_
  have kx := hY w _ Y
  obtain ⟨fd, hb, hF⟩ := F w mg fa _ kx G.T.g hmg
  exact g_law kx G.T.g G.T.b G.T.builtins G.T.nolimit hg hobj hints (Nat.le_trans hlen hm) hr hF hb fun H hO hS => hsp w H a ns hlen hO hS
end HN

/-! From the program's top to the tables; from a run of law to the law. -/
namespace HN
open PySem PySem.Spec PyProof.Rows L2
def nintB : List D → Bool
  | .int _ :: _ => false
  | _ => true
theorem nint_rp {G : Gx} {M : Mp} {n : Nat} {l : List D} {vs : List V} (h : nintB l = true) (q : RpL G M n l vs) : ∀ i r, vs ≠ V.int i :: r := fun i r e => by
  cases l with
  | nil => rw [show vs = [] from q] at e; cases e
  | cons d l =>
    obtain ⟨v, us, e1, q1, _⟩ := q
    rw [e1] at e
    cases e
    cases d with
    | int j => exact nb h
    | non => cases q1
    | bl b => cases q1
    | str s => obtain ⟨z, _⟩ := q1; cases z
    | tup l => obtain ⟨_, _, z, _⟩ := q1; cases z
    | lst l => obtain ⟨_, _, z, _⟩ := q1; cases z
    | scr l => obtain ⟨_, _, z, _⟩ := q1; cases z
    | obj c l => obtain ⟨_, _, _, z, _⟩ := q1; cases z
    | ref a => obtain ⟨_, z⟩ := q1; cases z
    | dic => obtain ⟨_, z, _⟩ := q1; cases z
mutual
/-- a constant of the top is this data -/
def datB (K : PySem.W.Frag) : D → Value → Bool
  | .non, u => (match u with | .none => true | _ => false)
  | .bl b, u => (match u with | .bool c => b == c | _ => false)
  | .int i, u => (match u with | .int j _ => decide (i = j) | _ => false)
  | .str s, u => (match u with | .str z _ => decide (s = z) && PyData.strOk s && decide (s.length ≤ 16777216) | _ => false)
  | .tup l, u => (match u with
    | .ref a => (match K.lookup a with
      | some ⟨.type c, _, .seq its _, _⟩ => decide (c = "tuple") && (decide (its.size ≤ sizeLine) && (nintB l && datBL K l its.toList))
      | _ => false)
    | _ => false)
  | _, _ => false
def datBL (K : PySem.W.Frag) : List D → List Value → Bool
  | [], us => us.isEmpty
  | d :: ds, us => (match us with | u :: r => datB K d u && datBL K ds r | [] => false)
end
mutual
theorem datB_ok {G : Gx} : ∀ {d : D} {u : Value}, datB G.K d u = true → ∃ v, RelV v u ∧ ∀ (M : Mp) (n : Nat), Rp G M n d v
  | .non, u, h => by
    cases u <;> first | exact nb h | skip
    exact ⟨.non, rfl, fun _ _ => rfl⟩
  | .bl b, u, h => by
    cases u <;> first | exact nb h | skip
    rename_i c
    have e : b = c := eq_of_beq (show (b == c) = true from h)
    exact ⟨.bl c, rfl, fun _ _ => by rw [e]; rfl⟩
  | .int i, u, h => by
    cases u <;> first | exact nb h | skip
    rename_i j t
    have e : i = j := of_decide_eq_true h
    exact ⟨.int j, ⟨t, rfl⟩, fun _ _ => by rw [e]; rfl⟩
  | .str s, u, h => by
    cases u <;> first | exact nb h | skip
    rename_i z t
    obtain ⟨h1, h3⟩ := and2 h
    obtain ⟨h1, h2⟩ := and2 h1
    have e : s = z := of_decide_eq_true h1
    subst e
    exact ⟨.str s, ⟨t, rfl⟩, fun _ _ => ⟨rfl, h2, of_decide_eq_true h3⟩⟩
  | .tup l, u, h => by
    cases u <;> first | exact nb h | skip
    rename_i a
    have h : (match G.K.lookup a with
      | some ⟨.type c, _, .seq its _, _⟩ => decide (c = "tuple") && (decide (its.size ≤ sizeLine) && (nintB l && datBL G.K l its.toList))
      | _ => false) = true := h
    cases q : G.K.lookup a with
    | none => rw [q] at h; exact nb h
    | some o =>
      obtain ⟨oc, od, dt, osl⟩ := o
      rw [q] at h
      cases oc <;> first | exact nb h | skip
      cases dt <;> first | exact nb h | skip
      rename_i c its n
      obtain ⟨h1, h2⟩ := and2 h
      obtain ⟨h3, h4⟩ := and2 h2
      obtain ⟨h5, h4⟩ := and2 h4
      obtain ⟨vs, v1, v2⟩ := datBL_ok h4
      exact ⟨.ref a, rfl, fun M m => ⟨a, vs, rfl, .inr ⟨.inr ⟨_, its, n, q, congrArg Value.type (of_decide_eq_true h1), rfl, of_decide_eq_true h3, v1⟩, nint_rp h5 (v2 M m)⟩, v2 M m⟩⟩
  | .lst _, _, h => nb h
  | .scr _, _, h => nb h
  | .obj _ _, _, h => nb h
  | .ref _, _, h => nb h
theorem datBL_ok {G : Gx} : ∀ {ds : List D} {us : List Value}, datBL G.K ds us = true → ∃ vs, Vals vs us ∧ ∀ (M : Mp) (n : Nat), RpL G M n ds vs
  | [], us, h => by
    cases us with
    | nil => exact ⟨[], .nil, fun _ _ => rfl⟩
    | cons _ _ => exact nb h
  | d :: ds, us, h => by
    cases us with
    | nil => exact nb h
    | cons u r =>
      obtain ⟨h1, h2⟩ := and2 h
      obtain ⟨v, v1, v2⟩ := datB_ok h1
      obtain ⟨vs, w1, w2⟩ := datBL_ok h2
      exact ⟨v :: vs, .cons v1 w1, fun M n => ⟨v, vs, rfl, v2 M n, w2 M n⟩⟩
end
/-! ### what is looked at behind the top -/
structure Look where
  fn : List He.DefD
  ts : List Str
  glob : List (Str × D)
  dict : List (Str × List (Str × D))
def globB (K : PySem.W.Frag) (q : Str × D) : Bool := match PySem.W.nsIn K mainGlobals q.1 with
  | some (some u) => datB K q.2 u
  | _ => false
def dictB (K : PySem.W.Frag) (q : Str × List (Str × D)) : Bool := He.eqO (PySem.W.nsIn K mainGlobals q.1) (some (some (.ref (He.ga K q.1)))) && q.2.all fun z => match PySem.W.nsIn K (He.ga K q.1) z.1 with
  | some (some u) => datB K z.2 u
  | _ => false
def Look.ok (L : Look) (K : PySem.W.Frag) : Bool := L.fn.all (fun d => d.ok K) && ((biAll.all fun x => He.eqO (PySem.W.nsIn K mainGlobals x) (some none)) && ((L.fn.all fun d => He.eqO (PySem.W.nsIn K mainGlobals d.at_.1) (some (some (.ref (He.ga K d.at_.1))))) && (L.glob.all (globB K) && L.dict.all (dictB K))))
abbrev AlM : Type := Bool × List He.FnW × List (Option (List (Option (Str × Int))))
def obsM (L : Look) (K : PySem.W.Frag) : AlM := (L.ok K, L.fn.map (fun d => He.fnW K d.at_), L.dict.map fun t => He.dicW K (He.ga K t.1))
def valM (L : Look) (w : World) : AlM := (true, L.fn.map He.DefD.val, L.dict.map fun t => some (He.keysIn w.params (t.2.map (·.1))))
def SaysM (L : Look) (w : World) (K : PySem.W.Frag) : Prop := obsM L K = valM L w
theorem says_of {L : Look} {w : World} {K : PySem.W.Frag} (h : obsM L K = valM L w) : SaysM L w K := h
def obsMG (n : Nat) (L : Look) (g : Addr → Option Obj) : AlM := obsM L (He.frG g (He.asD g n))
def hookM (n : Nat) (L : Look) : PySem.W.Hook where
  α := AlM
  obs := fun s => obsMG n L s.heap.get?
  val := fun w => valM L w
  says := fun w h => ∃ K : PySem.W.Frag, K.In h ∧ SaysM L w K
  of := fun _ _ e => ⟨_, He.frG_in, e⟩
  keeps := fun _ _ _ ⟨K, hK, c⟩ k => ⟨K, PySem.W.Frag.In.keeps hK k, c⟩
theorem obsMG_eq {n : Nat} {L : Look} {g : Addr → Option Obj} {s : Shared} (h : ∀ a, g a = s.heap.get? a) : obsMG n L g = (hookM n L).obs s := by
  have e : g = s.heap.get? := funext h
  rw [e] <;> rfl
section
variable {L : Look} {w : World} {K : PySem.W.Frag} {h : Heap} {mg : Str → Option Value}
theorem SaysM.ok (c : SaysM L w K) : L.ok K = true := congrArg (fun z : AlM => z.1) c
theorem SaysM.def_ (c : SaysM L w K) (i : Nat) {d : He.DefD} (h : L.fn[i]? = some d) : ∃ fd, FunD K d.name d.qual d.params d.body d.scope (d.dvs K) (d.kws K) (He.fAd K d.at_) fd := by
  have c2 := (and2 c.ok).1
  have e : L.fn.map (fun d => He.fnW K d.at_) = L.fn.map He.DefD.val := congrArg (fun z : AlM => z.2.1) c
  have e2 : (L.fn.map fun d => He.fnW K d.at_)[i]? = (L.fn.map He.DefD.val)[i]? := by rw [e]
  rw [List.getElem?_map, List.getElem?_map, h] at e2
  exact He.DefD.funD (Option.some.inj e2) (List.all_eq_true.mp c2 d (List.mem_of_getElem? h))
theorem SaysM.glo (c : SaysM L w K) (X : K.In h) (G : h.Ns mainGlobals mg) (i : Nat) {d : He.DefD} (h : L.fn[i]? = some d) : mg d.at_.1 = some (.ref (He.ga K d.at_.1)) :=
  PySem.W.mg_of X G (He.eqO_ok (List.all_eq_true.mp (and2 (and2 (and2 c.ok).2).2).1 d (List.mem_of_getElem? h)))
theorem SaysM.bi (c : SaysM L w K) (X : K.In h) (G : h.Ns mainGlobals mg) : ∀ x ∈ biAll, mg x = none := fun x hx =>
  PySem.W.mg_none_of X G (He.eqO_ok (List.all_eq_true.mp (and2 (and2 c.ok).2).1 x hx))
theorem nsM {α : Type} {x : Option (Option Value)} {f : Value → Bool} (h : (match x with | some (some u) => f u | _ => false) = true) : ∃ u, x = some (some u) ∧ f u = true := by
  cases x with
  | none => exact nb h
  | some r =>
    cases r with
    | none => exact nb h
    | some u => exact ⟨u, rfl, h⟩
theorem SaysM.glob {cA : Nat → Addr} {cN : Nat → List Str} (c : SaysM L w K) (X : K.In h) (G : h.Ns mainGlobals mg) {x : Str} {d : D} (hx : (x, d) ∈ L.glob) : ∃ v u, mg x = some u ∧ RelV v u ∧ ∀ (M : Mp) (n : Nat), Rp ⟨K, cA, cN⟩ M n d v := by
  obtain ⟨u, h1, h2⟩ := nsM (α := Unit) (List.all_eq_true.mp (and2 (and2 (and2 (and2 c.ok).2).2).2).1 (x, d) hx)
  obtain ⟨v, v1, v2⟩ := datB_ok (G := ⟨K, cA, cN⟩) h2
  exact ⟨v, u, PySem.W.mg_of X G h1, v1, v2⟩
theorem SaysM.dict {cA : Nat → Addr} {cN : Nat → List Str} (c : SaysM L w K) (X : K.In h) (G : h.Ns mainGlobals mg) {x k : Str} {l : List (Str × D)} {d : D} (hx : (x, l) ∈ L.dict) (hk : (k, d) ∈ l) : ∃ p v, mg x = some (.ref p) ∧ KDct K w p k v ∧ ∀ (M : Mp) (n : Nat), Rp ⟨K, cA, cN⟩ M n d v := by
  obtain ⟨h1, h2⟩ := and2 (List.all_eq_true.mp (and2 (and2 (and2 (and2 c.ok).2).2).2).2 (x, l) hx)
  obtain ⟨u, h3, h4⟩ := nsM (α := Unit) (List.all_eq_true.mp h2 (k, d) hk)
  obtain ⟨v, v1, v2⟩ := datB_ok (G := ⟨K, cA, cN⟩) h4
  have e : L.dict.map (fun t => He.dicW K (He.ga K t.1)) = L.dict.map fun t => some (He.keysIn w.params (t.2.map (·.1))) := congrArg (fun z : AlM => z.2.2) c
  obtain ⟨i, hi⟩ := List.getElem?_of_mem hx
  have e2 : (L.dict.map fun t => He.dicW K (He.ga K t.1))[i]? = (L.dict.map fun t => some (He.keysIn w.params (t.2.map (·.1))))[i]? := by rw [e]
  rw [List.getElem?_map, List.getElem?_map, hi] at e2
  obtain ⟨es, n, kd⟩ := He.dicW_ok (w := w) (Option.some.inj e2)
  exact ⟨_, v, PySem.W.mg_of X G (He.eqO_ok h1), ⟨es, n, u, kd.at_, kd.lit, h3, v1⟩, v2⟩
end
theorem lookup_mem {k : Str} {d : D} : ∀ {l : List (Str × D)}, l.lookup k = some d → (k, d) ∈ l
  | [], h => nn h
  | (k', d') :: r, h => by
    rw [List.lookup_cons] at h
    split at h
    · rename_i e
      cases h
      rw [eq_of_beq e]
      exact List.mem_cons_self
    · exact List.mem_cons_of_mem _ (lookup_mem h)
/-- the law's promise, from a run -/
theorem law_promise {K : PySem.W.Frag} {cA : Nat → Addr} {cN : Nat → List Str} {cf : List D → Store → Option (D × Store)} {H : Hp} {a : Addr} {ns : List Int} (h : ∃ S', cf [.scr (ns.map D.int)] [] = some (.bl true, S')) (hS : SqL K H a (ns.map V.int)) :
    spF ⟨K, cA, cN⟩ 1 cf [.ref a] H (fun v _ => v = .bl true) fun _ _ _ => False := by
  obtain ⟨S', h⟩ := h
  have rp : ∀ (ns : List Int) (M : Mp) (n : Nat), RpL ⟨K, cA, cN⟩ M n (ns.map D.int) (ns.map V.int) := fun ns M n => by
    induction ns with
    | nil => rfl
    | cons x r ih => exact ⟨_, _, rfl, rfl, ih⟩
  refine ⟨⟨H, fun _ => 0⟩, [], [.scr (ns.map D.int)], .bl true, S', rfl, ⟨fun p o h => h, fun a b ha => absurd ha (Nat.not_lt_zero _), fun a o ha => ?_, fun p l h => h⟩, ⟨.ref a, [], rfl, ⟨a, _, rfl, hS, rp ns _ _⟩, rfl⟩, h, fun v M' H' _ _ p => p⟩
  rw [List.getElem?_nil] at ha
  cases ha
/-! ### tables by lists -/
def tbOf (P : Prg) (rows : List (Nat × Str × List Str × Nat)) (gns dns : List (Nat × Str)) : Tb where
  prg := P
  fname := fun f => ((rows.lookup f).map (·.1)).getD ""
  params := fun f => ((rows.lookup f).map (·.2.1)).getD []
  kwn := fun f => ((rows.lookup f).map (·.2.2)).getD 0
  isFn := fun f => rows.any fun r => r.1 == f
  gname := fun g => (gns.filter fun r => r.1 == g).map (·.2)
  dname := fun g => (dns.lookup g).getD ""
def AllP {α : Type} (P : Nat → Prop) : List (Nat × α) → Prop
  | [] => True
  | i :: r => P i.1 ∧ AllP P r
theorem all_of {α : Type} {P : Nat → Prop} : ∀ {ids : List (Nat × α)}, AllP P ids → ∀ f, (ids.any fun r => r.1 == f) = true → P f
  | [], _, _, h => nb h
  | i :: r, a, f, h => by
    rw [List.any_cons, Bool.or_eq_true] at h
    rcases h with h | h
    · rw [← eq_of_beq h]; exact a.1
    · exact all_of a.2 f h
def AllM {α : Type} (P : Nat → α → Prop) : List (Nat × α) → Prop
  | [] => True
  | i :: r => P i.1 i.2 ∧ AllM P r
theorem all_mem {α : Type} {P : Nat → α → Prop} : ∀ {l : List (Nat × α)}, AllM P l → ∀ {g : Nat} {d : α}, l.lookup g = some d → P g d
  | [], _, _, _, h => nn h
  | (i, x) :: r, a, g, d, h => by
    rw [List.lookup_cons] at h
    split at h
    · rename_i e
      cases h
      rw [eq_of_beq e]; exact a.1
    · exact all_mem a.2 h
def AllX {α : Type} (P : α → Prop) : List α → Prop
  | [] => True
  | x :: r => P x ∧ AllX P r
theorem all_in {α : Type} {P : α → Prop} : ∀ {l : List α}, AllX P l → ∀ x ∈ l, P x
  | [], _, _, h => absurd h List.not_mem_nil
  | y :: r, a, x, h => by
    rcases List.mem_cons.mp h with rfl | h
    · exact a.1
    · exact all_in a.2 x h
theorem all_dict {P : Nat → Str → D → Prop} {l : List (Nat × List (Str × D))} (a : AllM (fun g t => ∀ k d, t.lookup k = some d → P g k d) l) {g : Nat} {k : Str} {d : D} (h : ((l.lookup g).getD []).lookup k = some d) : P g k d := by
  cases e : l.lookup g with
  | none => rw [e] at h; exact nn h
  | some t => rw [e] at h; exact all_mem a e k d h
theorem lens_of {P : Prg} {rows : List (Nat × Str × List Str × Nat)} {gns dns : List (Nat × Str)} {fds : List (Nat × FD)} (h : (fds.all fun q => decide (q.2.params = (((rows.lookup q.1).map (·.2.1)).getD []).length)) = true) :
    ∀ f d, fds.lookup f = some d → d.params = ((tbOf P rows gns dns).params f).length := fun f d e => by
  have m : (f, d) ∈ fds := by
    clear h
    induction fds with
    | nil => exact nn e
    | cons x r ih =>
      obtain ⟨i, y⟩ := x
      rw [List.lookup_cons] at e
      split at e
      · rename_i q
        cases e
        rw [eq_of_beq q]; exact List.mem_cons_self
      · exact List.mem_cons_of_mem _ (ih e)
  exact of_decide_eq_true (List.all_eq_true.mp h (f, d) m)
theorem callF_at {P : Prg} {defs : Nat → Option FD} {n f : Nat} {d : FD} {ds : List D} {S : Store} (h : defs f = some d) : callF P defs (n + 1) f ds S = runD P (callP P defs n).1 (callP P defs n).2 d ds S := by
  show (defs f).bind (fun d => runD P (callP P defs n).1 (callP P defs n).2 d ds S) = _
  rw [h] <;> rfl
end HN

/-! What the common defs of the laws compute: scripts, draws, types. -/
namespace HN
open PySem L2
/-- _law_state -/
def b14 : Ss := (.cons (.setOwn 1 (.comp [2] true (.e (.slice (.var 0) .absent (.int 63))) .nil (.bi .abs (.cons (.var 2) .nil)))) (.cons (.ite (.cmp .eq (.lenOwn 1) (.int 0)) (.cons (.setOwn 1 (.disp (.cons (.int 0) .nil))) .nil) .nil) (.cons (.share 1) (.cons (.ret (.shr (.disp (.cons (.int 0) (.cons (.var 1) .nil))))) .nil))))
abbrev fd14 : FD := ⟨1, 3, b14⟩
/-- _law_take -/
def b4 : Ss := (.cons (.set 2 (.idx (.var 0) (.int 1))) (.cons (.set 3 (.bin .mod (.idx (.var 0) (.int 0)) (.bi .len (.cons (.var 2) .nil)))) (.cons (.set 4 (.idx (.var 2) (.var 3))) (.cons (.ite (.cmp .ge (.var 4) (.int 1000000000000000000)) (.cons (.setIx (.var 2) (.var 3) (.bin .fdiv (.var 4) (.var 1))) (.cons (.ret (.bin .mod (.var 4) (.var 1))) .nil)) .nil) (.cons (.setIx (.var 0) (.int 0) (.bin .add (.idx (.var 0) (.int 0)) (.int 1))) (.cons (.set 5 (.bin .mod (.bi .int (.cons (.bin .add (.bin .mul (.var 4) (.int 48271)) (.bin .mul (.idx (.var 0) (.int 0)) (.int 69621))) .nil)) (.int 2147483647))) (.cons (.set 5 (.bin .mod (.bi .int (.cons (.bin .add (.bin .mul (.var 5) (.int 16807)) (.bin .mul (.idx (.var 0) (.int 0)) (.int 7919))) .nil)) (.int 1000000007))) (.cons (.ret (.bin .mod (.bin .fdiv (.var 5) (.int 7)) (.var 1))) .nil))))))))
abbrev fd4 : FD := ⟨2, 6, b4⟩
/-- _law_type -/
def b6 : Ss := (.cons (.set 2 (.call 4 (.cons (.var 0) (.cons (.int 9) .nil)))) (.cons (.ite (.or (.cons (.cmp .eq (.var 1) (.int 0)) (.cons (.cmp .lt (.var 2) (.int 5)) .nil))) (.cons (.ret (.idx (.frz (.disp (.cons (.tup (.cons (.str "int") .nil)) (.cons (.tup (.cons (.str "bool") .nil)) (.cons (.tup (.cons (.str "int") .nil)) (.cons (.tup (.cons (.str "any") .nil)) (.cons (.tup (.cons (.str "unit") .nil)) .nil))))))) (.bin .mod (.var 2) (.int 5)))) .nil) .nil) (.cons (.set 3 (.call 6 (.cons (.var 0) (.cons (.bin .sub (.var 1) (.int 1)) .nil)))) (.cons (.ite (.cmp .eq (.var 2) (.int 8)) (.cons (.ret (.tup (.cons (.str "box") (.cons (.var 3) .nil)))) .nil) .nil) (.cons (.set 4 (.call 6 (.cons (.var 0) (.cons (.bin .sub (.var 1) (.int 1)) .nil)))) (.cons (.ite (.cmp .eq (.var 2) (.int 7)) (.cons (.ret (.tup (.cons (.str "pair") (.cons (.var 3) (.cons (.var 4) .nil))))) .nil) .nil) (.cons (.ret (.tup (.cons (.str "fun") (.cons (.var 3) (.cons (.var 4) .nil))))) .nil)))))))
abbrev fd6 : FD := ⟨2, 5, b6⟩
/-- _law_less -/
def b5 : Ss := (.cons (.ite (.cmp .eq (.call 4 (.cons (.var 0) (.cons (.int 3) .nil))) (.int 0)) (.cons (.ret (.tup (.cons (.str "any") .nil))) .nil) .nil) (.cons (.set 2 (.frz (.comp [3] true (.e (.slice (.var 1) (.int 1) .absent)) .nil (.call 5 (.cons (.var 0) (.cons (.var 3) .nil)))))) (.cons (.ret (.bin .add (.tup (.cons (.idx (.var 1) (.int 0)) .nil)) (.bi .tuple (.cons (.var 2) .nil)))) .nil)))
abbrev fd5 : FD := ⟨2, 4, b5⟩
/-- _law_changed -/
def b8 : Ss := (.cons (.set 2 (.call 4 (.cons (.var 0) (.cons (.int 6) .nil)))) (.cons (.ite (.cmp .eq (.var 2) (.int 0)) (.cons (.ret (.tup (.cons (.str "any") .nil))) .nil) .nil) (.cons (.ite (.cmp .eq (.var 2) (.int 1)) (.cons (.ret (.call 6 (.cons (.var 0) (.cons (.int 1) .nil)))) .nil) .nil) (.cons (.ret (.bin .add (.tup (.cons (.idx (.var 1) (.int 0)) .nil)) (.bi .tuple (.cons (.frz (.comp [3] true (.e (.slice (.var 1) (.int 1) .absent)) .nil (.call 8 (.cons (.var 0) (.cons (.var 3) .nil))))) .nil)))) .nil))))
abbrev fd8 : FD := ⟨2, 4, b8⟩
/-- _law_fits -/
def b7 : Ss := (.cons (.ite (.or (.cons (.cmp .eq (.var 0) (.tup (.cons (.str "any") .nil))) (.cons (.cmp .eq (.var 1) (.tup (.cons (.str "any") .nil))) .nil))) (.cons (.ret (.bl true)) .nil) .nil) (.cons (.ite (.cmp .ne (.idx (.var 0) (.int 0)) (.idx (.var 1) (.int 0))) (.cons (.ret (.bl false)) .nil) .nil) (.cons (.ret (.cmp .eq (.bi .len (.cons (.frz (.comp [2] true (.range2 (.int 1) (.bi .len (.cons (.var 0) .nil))) (.cons (.not (.call 7 (.cons (.idx (.var 0) (.var 2)) (.cons (.idx (.var 1) (.var 2)) .nil)))) .nil) (.var 2))) .nil)) (.int 0))) .nil)))
abbrev fd7 : FD := ⟨2, 3, b7⟩
/-- _law_below -/
def b9 : Ss := (.cons (.ite (.cmp .eq (.var 0) (.tup (.cons (.str "any") .nil))) (.cons (.ret (.bl true)) .nil) .nil) (.cons (.ite (.cmp .ne (.idx (.var 0) (.int 0)) (.idx (.var 1) (.int 0))) (.cons (.ret (.bl false)) .nil) .nil) (.cons (.ret (.cmp .eq (.bi .len (.cons (.frz (.comp [2] true (.range2 (.int 1) (.bi .len (.cons (.var 0) .nil))) (.cons (.not (.call 9 (.cons (.idx (.var 0) (.var 2)) (.cons (.idx (.var 1) (.var 2)) .nil)))) .nil) (.var 2))) .nil)) (.int 0))) .nil)))
abbrev fd9 : FD := ⟨2, 3, b9⟩
/-- _law_meet -/
def b10 : Ss := (.cons (.ite (.cmp .eq (.var 0) (.tup (.cons (.str "any") .nil))) (.cons (.ret (.var 1)) .nil) .nil) (.cons (.ite (.cmp .eq (.var 1) (.tup (.cons (.str "any") .nil))) (.cons (.ret (.var 0)) .nil) .nil) (.cons (.ret (.bin .add (.tup (.cons (.idx (.var 0) (.int 0)) .nil)) (.bi .tuple (.cons (.frz (.comp [2] true (.range2 (.int 1) (.bi .len (.cons (.var 0) .nil))) .nil (.call 10 (.cons (.idx (.var 0) (.var 2)) (.cons (.idx (.var 1) (.var 2)) .nil))))) .nil)))) .nil)))
abbrev fd10 : FD := ⟨2, 3, b10⟩
/-- _law_high -/
def b11 : Ss := (.cons (.ret (.bin .add (.int 1) (.bi .max1 (.cons (.bin .add (.frz (.disp (.cons (.int 0) .nil))) (.frz (.comp [1] true (.e (.slice (.var 0) (.int 1) .absent)) .nil (.call 11 (.cons (.var 1) .nil))))) .nil)))) .nil)
abbrev fd11 : FD := ⟨1, 2, b11⟩
/-- _law_same -/
def b15 : Ss := (.cons (.ret (.and (.cons (.isi .isBool (.var 0)) (.cons (.cmp .eq (.var 0) (.var 1)) .nil)))) .nil)
abbrev fd15 : FD := ⟨2, 2, b15⟩
/-- _law_ground -/
def b16 : Ss := (.cons (.ite (.cmp .eq (.var 0) (.tup (.cons (.str "any") .nil))) (.cons (.ret (.bl true)) .nil) .nil) (.cons (.set 1 (.call 12 (.cons (.var 0) .nil))) (.cons (.set 2 (.call 13 (.cons (.var 1) .nil))) (.cons (.ite (.or (.cons (.cmp .ne (.var 1) (.idx (.var 0) (.int 0))) (.cons (.cmp .ne (.idx (.var 2) (.int 0)) (.var 1)) (.cons (.cmp .ne (.bi .len (.cons (.var 2) .nil)) (.bi .len (.cons (.var 0) .nil))) .nil)))) (.cons (.ret (.bl false)) .nil) .nil) (.cons (.ret (.cmp .eq (.bi .len (.cons (.frz (.comp [3] true (.e (.slice (.var 2) (.int 1) .absent)) (.cons (.cmp .ne (.var 3) (.tup (.cons (.str "any") .nil))) .nil) (.var 3))) .nil)) (.int 0))) .nil)))))
abbrev fd16 : FD := ⟨1, 4, b16⟩
/-- consistent -/
def b0 : Ss := (.cons (.ite (.or (.cons (.cmp .eq (.var 0) (.glob 0)) (.cons (.cmp .eq (.var 1) (.glob 0)) .nil))) (.cons (.ret (.bl true)) .nil) .nil) (.cons (.ite (.cmp .ne (.idx (.var 0) (.int 0)) (.idx (.var 1) (.int 0))) (.cons (.ret (.bl false)) .nil) .nil) (.cons (.forS [2] true (.range2 (.int 1) (.bi .len (.cons (.var 0) .nil))) (.cons (.ite (.not (.call 0 (.cons (.idx (.var 0) (.var 2)) (.cons (.idx (.var 1) (.var 2)) .nil)))) (.cons (.ret (.bl false)) .nil) .nil) .nil)) (.cons (.ret (.bl true)) .nil))))
abbrev fd0 : FD := ⟨2, 3, b0⟩
/-- less_exact -/
def b1 : Ss := (.cons (.ite (.cmp .eq (.var 0) (.glob 0)) (.cons (.ret (.bl true)) .nil) .nil) (.cons (.ite (.cmp .ne (.idx (.var 0) (.int 0)) (.idx (.var 1) (.int 0))) (.cons (.ret (.bl false)) .nil) .nil) (.cons (.forS [2] true (.range2 (.int 1) (.bi .len (.cons (.var 0) .nil))) (.cons (.ite (.not (.call 1 (.cons (.idx (.var 0) (.var 2)) (.cons (.idx (.var 1) (.var 2)) .nil)))) (.cons (.ret (.bl false)) .nil) .nil) .nil)) (.cons (.ret (.bl true)) .nil))))
abbrev fd1 : FD := ⟨2, 3, b1⟩
/-- meeting -/
def b2 : Ss := (.cons (.ite (.cmp .eq (.var 0) (.glob 0)) (.cons (.ret (.var 1)) .nil) .nil) (.cons (.ite (.cmp .eq (.var 1) (.glob 0)) (.cons (.ret (.var 0)) .nil) .nil) (.cons (.ite (.cmp .ne (.idx (.var 0) (.int 0)) (.idx (.var 1) (.int 0))) (.cons (.ret .non) .nil) .nil) (.cons (.setOwn 2 (.disp .nil)) (.cons (.forS [3] true (.range2 (.int 1) (.bi .len (.cons (.var 0) .nil))) (.cons (.set 4 (.call 2 (.cons (.idx (.var 0) (.var 3)) (.cons (.idx (.var 1) (.var 3)) .nil)))) (.cons (.ite (.cmp .is (.var 4) .non) (.cons (.ret .non) .nil) .nil) (.cons (.appOwn 2 (.var 4)) .nil)))) (.cons (.freeze 2) (.cons (.ret (.bin .add (.tup (.cons (.idx (.var 0) (.int 0)) .nil)) (.bi .tuple (.cons (.var 2) .nil)))) .nil)))))))
abbrev fd2 : FD := ⟨2, 5, b2⟩
/-- ground -/
def b12 : Ss := (.cons (.ret (.idx (.var 0) (.int 0))) .nil)
abbrev fd12 : FD := ⟨1, 1, b12⟩
/-- ground_type -/
def b13 : Ss := (.cons (.ret (.gdict 0 (.var 0))) .nil)
abbrev fd13 : FD := ⟨1, 1, b13⟩
/-- height -/
def b3 : Ss := (.cons (.set 1 (.int 0)) (.cons (.forS [2] true (.e (.slice (.var 0) (.int 1) .absent)) (.cons (.set 1 (.bi .max2 (.cons (.var 1) (.cons (.call 3 (.cons (.var 2) .nil)) .nil)))) .nil)) (.cons (.ret (.bin .add (.var 1) (.int 1))) .nil)))
abbrev fd3 : FD := ⟨1, 3, b3⟩
theorem gc_same {S : Store} {d : D} : gcD S (d, S) = (d, S) := by unfold gcD; split <;> rfl
theorem gc_len {S S' : Store} {d : D} (h : S'.length = S.length) : gcD S (d, S') = (d, S') := by
  unfold gcD
  split
  · rename_i c
    have e : S' = S := by rw [← c.1, ← h, List.take_length]
    rw [e]
  · rfl
theorem kept_none {S : Store} : keptD none S = true := keptD_iff.mpr True.intro
/-- a script's state -/
def stS (c : List Int) (k : Int) : Store := [.lst (c.map .int), .lst [.int k, .ref 0]]
structure GoodC (c : List Int) (k : Int) : Prop where
  ne : 0 < c.length
  nn : ∀ x ∈ c, 0 ≤ x
  k : 0 ≤ k
def Good (S : Store) : Prop := ∃ c k, S = stS c k ∧ GoodC c k
theorem atI_of {α : Type} {xs : List α} {i : Int} {j : Nat} {v : α} (h : xs[j]? = some v) (e : i = j) : atI xs i = some v := by
  subst e
  exact atI_nat h
theorem ixN_of {n : Nat} {i : Int} {j : Nat} (h : j < n) (e : i = j) : ixN n i = some j := by
  subst e
  unfold ixN
  rw [if_pos (by omega), if_pos (by omega)] <;> simp
theorem at0 {α : Type} (a : α) (r : List α) : atI (a :: r) 0 = some a := atI_of (j := 0) rfl rfl
theorem at1 {α : Type} (a b : α) (r : List α) : atI (a :: b :: r) 1 = some b := atI_of (j := 1) rfl rfl
theorem at2 {α : Type} (a b c : α) (r : List α) : atI (a :: b :: c :: r) 2 = some c := atI_of (j := 2) rfl rfl
theorem at3 {α : Type} (a b c d : α) (r : List α) : atI (a :: b :: c :: d :: r) 3 = some d := atI_of (j := 3) rfl rfl
theorem at4 {α : Type} (a b c d e : α) (r : List α) : atI (a :: b :: c :: d :: e :: r) 4 = some e := atI_of (j := 4) rfl rfl
theorem at5 {α : Type} (a b c d e f : α) (r : List α) : atI (a :: b :: c :: d :: e :: f :: r) 5 = some f := atI_of (j := 5) rfl rfl
theorem at6 {α : Type} (a b c d e f g : α) (r : List α) : atI (a :: b :: c :: d :: e :: f :: g :: r) 6 = some g := atI_of (j := 6) rfl rfl
theorem ix0 (n : Nat) : ixN (n + 1) 0 = some 0 := ixN_of (j := 0) (by omega) rfl
theorem ix1 (n : Nat) : ixN (n + 2) 1 = some 1 := ixN_of (j := 1) (by omega) rfl
theorem Good.len {S : Store} (g : Good S) : S.length = 2 := by
  obtain ⟨c, k, rfl, _⟩ := g
  rfl
theorem rg_nat {a b : Int} (h0 : 0 ≤ a) (h1 : a ≤ 4294967296) (h2 : 0 ≤ b) (h3 : b ≤ 4294967296) : rgOk a b = true := by
  unfold rgOk
  simp only [Bool.and_eq_true, decide_eq_true_eq]
  omega
theorem callF_on {P : Prg} {defs : Nat → Option FD} {n f : Nat} {d : FD} {ds : List D} {S : Store} (h : defs f = some d) : callF P defs (n + 1) f ds S = runD P (callF P defs n) (callP P defs n).2 d ds S := callF_at h
theorem compD_map {T : D → Store → Option (Option D × Store)} {S : Store} {g : D → D} : ∀ {l : List D}, (∀ x ∈ l, T x S = some (some (g x), S)) → compD T l S = some (l.map g, S)
  | [], _ => rfl
  | x :: r, h => by
    show (T x S).bind _ = _
    rw [h x List.mem_cons_self]
    show (compD T r S).map _ = _
    rw [compD_map fun y hy => h y (List.mem_cons_of_mem _ hy)] <;> rfl
theorem cut_pre {α : Type} {l : List α} {k : Nat} (h : l.length ≤ k) : cutD l none (some (k : Int)) = l := by
  unfold cutD
  rw [HT.sIx_none, HT.sIx_nat, Nat.min_eq_right h, List.drop_zero, Nat.sub_zero, List.take_length]
theorem cut_from {α : Type} (l : List α) (k : Nat) : cutD l (some (k : Int)) none = l.drop k := by
  unfold cutD
  rw [HT.sIx_none, HT.sIx_nat]
  by_cases h : k ≤ l.length
  · rw [Nat.min_eq_left h, List.take_of_length_le (by rw [List.length_drop]; exact Nat.le_refl _)]
  · rw [Nat.min_eq_right (by omega), List.drop_length, List.drop_eq_nil_of_le (by omega), List.take_nil]
theorem str_inj {a b : String} : (Str.ofString a = Str.ofString b) = (a = b) := by
  refine propext ⟨fun h => ?_, fun h => by rw [h]⟩
  rw [Str.ofString_eq_toList, Str.ofString_eq_toList] at h
  have h1 : (a.toList.map Char.toNat) = (b.toList.map Char.toNat) := by
    have := congrArg (fun z : Str => z.cps.toList) h
    simpa using this
  have inj : ∀ x y : Char, x.toNat = y.toNat → x = y := fun x y e => Char.ext (UInt32.toNat_inj.mp e)
  have h2 : a.toList = b.toList := by
    have go : ∀ l m : List Char, l.map Char.toNat = m.map Char.toNat → l = m := by
      intro l
      induction l with
      | nil => intro m e; cases m <;> simp_all
      | cons x r ih =>
        intro m e
        cases m with
        | nil => simp at e
        | cons y s =>
          simp at e
          rw [inj x y e.1, ih s e.2]
    exact go _ _ h1
  exact String.toList_inj.mp h2
theorem str_beq {a b : String} : (Str.ofString a == Str.ofString b) = decide (a = b) := by
  rw [Bool.eq_iff_iff, beq_iff_eq, decide_eq_true_iff, str_inj]
theorem cut1 {α : Type} (a : α) (r : List α) : cutD (a :: r) (some 1) none = r := cut_from (a :: r) 1
theorem cut2 {α : Type} (a b : α) (r : List α) : cutD (a :: b :: r) (some 2) none = r := cut_from (a :: b :: r) 2
theorem lr0 : List.range 0 = [] := rfl
theorem lr1 : List.range 1 = [0] := rfl
theorem lr2 : List.range 2 = [0, 1] := rfl
theorem lr3 : List.range 3 = [0, 1, 2] := rfl
theorem lr4 : List.range 4 = [0, 1, 2, 3] := rfl
theorem lr5 : List.range 5 = [0, 1, 2, 3, 4] := rfl
theorem lr6 : List.range 6 = [0, 1, 2, 3, 4, 5] := rfl
theorem lr7 : List.range 7 = [0, 1, 2, 3, 4, 5, 6] := rfl
theorem n_non : isNon .non = true := rfl
theorem n_tup (l : List D) : isNon (.tup l) = false := rfl
theorem n_lst (l : List D) : isNon (.lst l) = false := rfl
theorem n_int (i : Int) : isNon (.int i) = false := rfl
theorem n_str (s : Str) : isNon (.str s) = false := rfl
theorem n_bl (b : Bool) : isNon (.bl b) = false := rfl
theorem eq_int (a b : Int) : eqD (.int a) (.int b) = some (a == b) := rfl
theorem eq_str (a b : Str) : eqD (.str a) (.str b) = some (a == b) := rfl
theorem eq_bl (a b : Bool) : eqD (.bl a) (.bl b) = some (a == b) := rfl
theorem take_ok {P : Prg} {defs : Nat → Option FD} {n : Nat} {S : Store} (h : defs 4 = some fd4) (g : Good S) {most : Int} (h0 : 0 < most) (h1 : most < 1073741824) :
    ∃ r S', Good S' ∧ 0 ≤ r ∧ r < most ∧ callF P defs (n + 1) 4 [.ref 1, .int most] S = some (.int r, S') := by
  obtain ⟨c, k, rfl, g⟩ := g
  have hl := g.ne
  have m0 : 0 ≤ k % (c.length : Int) := Int.emod_nonneg _ (by omega)
  have m1 : k % (c.length : Int) < c.length := Int.emod_lt_of_pos _ (by omega)
  obtain ⟨j, hj⟩ : ∃ j : Nat, k % (c.length : Int) = j := ⟨(k % (c.length : Int)).toNat, by omega⟩
  have hjl : j < c.length := by omega
  have hx : 0 ≤ c[j] := g.nn _ (List.getElem_mem hjl)
  have ha : atI (c.map D.int) (j : Int) = some (.int c[j]) := atI_nat (by rw [List.getElem?_map, List.getElem?_eq_getElem hjl]; rfl)
  have hi : ixN c.length (j : Int) = some j := ixN_of hjl rfl
  rw [callF_at h]
  by_cases hb : 1000000000000000000 ≤ c[j]
  · refine ⟨c[j] % most, stS (c.set j (c[j] / most)) k, ⟨_, k, rfl, by rw [List.length_set]; exact hl, fun x hx => ?_, g.k⟩, Int.emod_nonneg _ (by omega), Int.emod_lt_of_pos _ h0, ?_⟩
    · rcases List.mem_or_eq_of_mem_set hx with q | q
      · exact g.nn x q
      · rw [q]; exact Int.ediv_nonneg (by omega) (by omega)
    · simp [runD, exSs, exS, evE, evT, evEs, evL, evI, evIfs, evAnd, evOr, evAndT, evOrT, startD, getV, putV, getO, putVs, putT, wipeE, idxD, sliceD, isAbs, partD, biD, one1, lenD, intD, absD, tupleD, listS, max2D, maxD, maxI, intsD, isTD, tyD, isT, binD, cmpD, isD, n_non, n_tup, n_lst, n_int, n_str, n_bl, truD, lstAt, itemsD, forD, compD, turnF, turnC, kept_none, szOk, rg_nat, rangeL, at0, at1, at2, at3, at4, at5, at6, ix0, ix1, gc_same, gc_len, eq_int, eq_str, eq_bl, str_inj, str_beq, cut1, cut2, lr0, lr1, lr2, lr3, lr4, lr5, lr6, lr7, b4, stS, hl, hj, ha, hb, hi, h0, h1]
  · obtain ⟨x, hx1⟩ : ∃ x : Int, x = ((c[j] * 48271 + (k + 1) * 69621) % 2147483647 * 16807 + (k + 1) * 7919) % 1000000007 := ⟨_, rfl⟩
    refine ⟨x / 7 % most, stS c (k + 1), ⟨c, k + 1, rfl, hl, g.nn, by have := g.k; omega⟩, Int.emod_nonneg _ (by omega), Int.emod_lt_of_pos _ h0, ?_⟩
    simp [runD, exSs, exS, evE, evT, evEs, evL, evI, evIfs, evAnd, evOr, evAndT, evOrT, startD, getV, putV, getO, putVs, putT, wipeE, idxD, sliceD, isAbs, partD, biD, one1, lenD, intD, absD, tupleD, listS, max2D, maxD, maxI, intsD, isTD, tyD, isT, binD, cmpD, isD, n_non, n_tup, n_lst, n_int, n_str, n_bl, truD, lstAt, itemsD, forD, compD, turnF, turnC, kept_none, szOk, rg_nat, rangeL, at0, at1, at2, at3, at4, at5, at6, ix0, ix1, gc_same, gc_len, eq_int, eq_str, eq_bl, str_inj, str_beq, cut1, cut2, lr0, lr1, lr2, lr3, lr4, lr5, lr6, lr7, b4, stS, hl, hj, ha, hb, hi, h0, h1, hx1]
theorem state_ok {P : Prg} {defs : Nat → Option FD} {n : Nat} {ns : List Int} (h : defs 14 = some fd14) (hl : ns.length ≤ 63) : ∃ S, Good S ∧ callF P defs (n + 1) 14 [.scr (ns.map .int)] [] = some (.ref 1, S) := by
  have hc : cutD (ns.map D.int) none (some 63) = ns.map D.int := cut_pre (k := 63) (by rw [List.length_map]; exact hl)
  have hl2 : ns.length ≤ 16777216 := by omega
  have hm : ∀ T : D → Store → Option (Option D × Store), (∀ i : Int, T (.int i) [] = some (some (.int (if i < 0 then -i else i)), [])) → compD T (ns.map D.int) [] = some ((ns.map fun i => D.int (if i < 0 then -i else i)), []) := fun T hT => by
    have z := compD_map (T := T) (S := []) (g := fun d => match d with | .int i => .int (if i < 0 then -i else i) | d => d) (l := ns.map D.int) (fun x hx => by
      obtain ⟨i, _, rfl⟩ := List.mem_map.mp hx
      exact hT i)
    rw [z, List.map_map] <;> rfl
  rw [callF_on h]
  by_cases h0 : ns = []
  · subst h0
    refine ⟨stS [0] 0, ⟨[0], 0, rfl, ⟨by decide, by simp, by decide⟩⟩, ?_⟩
    have hc : cutD ([] : List D) none (some 63) = [] := hc
    simp [runD, exSs, exS, evE, evT, evEs, evL, evI, evIfs, evAnd, evOr, evAndT, evOrT, startD, getV, putV, getO, putVs, putT, wipeE, idxD, sliceD, isAbs, partD, biD, one1, lenD, intD, absD, tupleD, listS, max2D, maxD, maxI, intsD, isTD, tyD, isT, binD, cmpD, isD, n_non, n_tup, n_lst, n_int, n_str, n_bl, truD, lstAt, itemsD, forD, compD, turnF, turnC, kept_none, szOk, rg_nat, rangeL, at0, at1, at2, at3, at4, at5, at6, ix0, ix1, gc_same, gc_len, eq_int, eq_str, eq_bl, str_inj, str_beq, cut1, cut2, lr0, lr1, lr2, lr3, lr4, lr5, lr6, lr7, b14, stS, hc, gcD, D.bdd, eq_int]
  · refine ⟨stS (ns.map fun i => if i < 0 then -i else i) 0, ⟨_, 0, rfl, ⟨by rw [List.length_map]; exact List.length_pos_iff.mpr h0, fun x hx => ?_, by decide⟩⟩, ?_⟩
    · obtain ⟨i, _, rfl⟩ := List.mem_map.mp hx
      split <;> omega
    · simp [runD, exSs, exS, evE, evT, evEs, evL, evI, evIfs, evAnd, evOr, evAndT, evOrT, startD, getV, putV, getO, putVs, putT, wipeE, idxD, sliceD, isAbs, partD, biD, one1, lenD, intD, absD, tupleD, listS, max2D, maxD, maxI, intsD, isTD, tyD, isT, binD, cmpD, isD, n_non, n_tup, n_lst, n_int, n_str, n_bl, truD, lstAt, itemsD, forD, compD, turnF, turnC, kept_none, szOk, rg_nat, rangeL, at0, at1, at2, at3, at4, at5, at6, ix0, ix1, gc_same, gc_len, eq_int, eq_str, eq_bl, str_inj, str_beq, cut1, cut2, lr0, lr1, lr2, lr3, lr4, lr5, lr6, lr7, b14, stS, hc, gcD, D.bdd, hl2]
      rw [hm _ fun i => by simp [runD, exSs, exS, evE, evT, evEs, evL, evI, evIfs, evAnd, evOr, evAndT, evOrT, startD, getV, putV, getO, putVs, putT, wipeE, idxD, sliceD, isAbs, partD, biD, one1, lenD, intD, absD, tupleD, listS, max2D, maxD, maxI, intsD, isTD, tyD, isT, binD, cmpD, isD, n_non, n_tup, n_lst, n_int, n_str, n_bl, truD, lstAt, itemsD, forD, compD, turnF, turnC, kept_none, szOk, rg_nat, rangeL, at0, at1, at2, at3, at4, at5, at6, ix0, ix1, gc_same, gc_len, eq_int, eq_str, eq_bl, str_inj, str_beq, cut1, cut2, lr0, lr1, lr2, lr3, lr4, lr5, lr6, lr7]]
      simp [runD, exSs, exS, evE, evT, evEs, evL, evI, evIfs, evAnd, evOr, evAndT, evOrT, startD, getV, putV, getO, putVs, putT, wipeE, idxD, sliceD, isAbs, partD, biD, one1, lenD, intD, absD, tupleD, listS, max2D, maxD, maxI, intsD, isTD, tyD, isT, binD, cmpD, isD, n_non, n_tup, n_lst, n_int, n_str, n_bl, truD, lstAt, itemsD, forD, compD, turnF, turnC, kept_none, szOk, rg_nat, rangeL, at0, at1, at2, at3, at4, at5, at6, ix0, ix1, gc_same, gc_len, eq_int, eq_str, eq_bl, str_inj, str_beq, cut1, cut2, lr0, lr1, lr2, lr3, lr4, lr5, lr6, lr7, stS, D.bdd, eq_int, h0]
end HN

set_option maxHeartbeats 0
/-! Types: what the defs on types compute. -/
namespace HN
open PySem L2
inductive Ty where
  | any | int | bool | unit | fn (a b : Ty) | pair (a b : Ty) | box (a : Ty)
deriving DecidableEq
def Ty.d : Ty → D
  | .any => .tup [.str "any"]
  | .int => .tup [.str "int"]
  | .bool => .tup [.str "bool"]
  | .unit => .tup [.str "unit"]
  | .fn a b => .tup [.str "fun", a.d, b.d]
  | .pair a b => .tup [.str "pair", a.d, b.d]
  | .box a => .tup [.str "box", a.d]
def Ty.h : Ty → Nat
  | .fn a b => max a.h b.h + 1
  | .pair a b => max a.h b.h + 1
  | .box a => a.h + 1
  | _ => 1
theorem Ty.h_pos (t : Ty) : 1 ≤ t.h := by cases t <;> simp [Ty.h]
theorem Ty.data (t : Ty) : D.data t.d = true := by
  induction t <;> simp_all [Ty.d, D.data, D.dataL]
theorem Ty.dep (t : Ty) : D.dep t.d = t.h := by
  induction t <;> simp_all [Ty.d, Ty.h, D.dep, D.depL]
theorem Ty.eqv : ∀ a b : Ty, D.eqv a.d b.d = decide (a = b)
  | .any, b => by cases b <;> simp [Ty.d, D.eqv, D.eqvL, str_beq]
  | .int, b => by cases b <;> simp [Ty.d, D.eqv, D.eqvL, str_beq]
  | .bool, b => by cases b <;> simp [Ty.d, D.eqv, D.eqvL, str_beq]
  | .unit, b => by cases b <;> simp [Ty.d, D.eqv, D.eqvL, str_beq]
  | .fn a1 a2, b => by cases b <;> simp [Ty.d, D.eqv, D.eqvL, str_beq, Ty.eqv a1, Ty.eqv a2]
  | .pair a1 a2, b => by cases b <;> simp [Ty.d, D.eqv, D.eqvL, str_beq, Ty.eqv a1, Ty.eqv a2]
  | .box a1, b => by cases b <;> simp [Ty.d, D.eqv, D.eqvL, str_beq, Ty.eqv a1]
theorem Ty.eq {a b : Ty} (h : a.h ≤ 64 ∨ b.h ≤ 64) : eqD a.d b.d = some (decide (a = b)) := by
  unfold eqD
  rw [Ty.data, Ty.data, Ty.dep, Ty.dep, Ty.eqv, decide_eq_true (by omega : min a.h b.h ≤ 64)]
  rfl
theorem Ty.eq_any (a : Ty) : eqD a.d (.tup [.str "any"]) = some (decide (a = .any)) := Ty.eq (b := .any) (.inr (by decide))
theorem Ty.ne_any (a : Ty) : eqD a.d (.tup [.str "any"]) = some (decide (a = .any)) := Ty.eq (b := .any) (.inr (by decide))
theorem eqA {s : Str} {l : List D} (h : D.dataL l = true) : eqD (.tup (.str s :: l)) (.tup [.str "any"]) = some (s == "any" && l.isEmpty) := by
  unfold eqD
  have e1 : D.data (.tup (.str s :: l)) = true := by simp [D.data, D.dataL, h]
  have e2 : D.data (.tup [.str "any"]) = true := rfl
  have e3 : D.dep (.tup [.str "any"]) = 1 := rfl
  rw [e1, e2, e3, decide_eq_true (by omega : min (D.dep (.tup (.str s :: l))) 1 ≤ 64)]
  cases l <;> simp [D.eqv, D.eqvL]
theorem eqA0 {s : Str} : eqD (.tup [.str s]) (.tup [.str "any"]) = some (s == "any") := by
  rw [eqA (l := []) rfl]; simp
def Ty.fits : Ty → Ty → Bool
  | .any, _ => true
  | _, .any => true
  | .int, .int => true
  | .bool, .bool => true
  | .unit, .unit => true
  | .fn a b, .fn c d => a.fits c && b.fits d
  | .pair a b, .pair c d => a.fits c && b.fits d
  | .box a, .box c => a.fits c
  | _, _ => false
def Ty.le : Ty → Ty → Bool
  | .any, _ => true
  | .int, .int => true
  | .bool, .bool => true
  | .unit, .unit => true
  | .fn a b, .fn c d => a.le c && b.le d
  | .pair a b, .pair c d => a.le c && b.le d
  | .box a, .box c => a.le c
  | _, _ => false
def Ty.meet : Ty → Ty → Ty
  | .any, b => b
  | a, .any => a
  | .fn a b, .fn c d => .fn (a.meet c) (b.meet d)
  | .pair a b, .pair c d => .pair (a.meet c) (b.meet d)
  | .box a, .box c => .box (a.meet c)
  | a, _ => a
section
variable {P : Prg} {defs : Nat → Option FD}
theorem height_ok (h : defs 3 = some fd3) : ∀ (t : Ty) {n : Nat} (S : Store), t.h ≤ n → callF P defs n 3 [t.d] S = some (.int t.h, S)
  | t, 0, S, hn => by have := t.h_pos; omega
  | .any, n + 1, S, hn => by rw [callF_on h]; simp [runD, exSs, exS, evE, evT, evEs, evL, evI, evIfs, evAnd, evOr, evAndT, evOrT, startD, getV, putV, getO, putVs, putT, wipeE, idxD, sliceD, isAbs, partD, biD, one1, lenD, intD, absD, tupleD, listS, max2D, maxD, maxI, intsD, isTD, tyD, isT, binD, cmpD, isD, n_non, n_tup, n_lst, n_int, n_str, n_bl, truD, lstAt, itemsD, forD, compD, turnF, turnC, kept_none, szOk, rg_nat, rangeL, at0, at1, at2, at3, at4, at5, at6, ix0, ix1, gc_same, gc_len, eq_int, eq_str, eq_bl, str_inj, str_beq, cut1, cut2, lr0, lr1, lr2, lr3, lr4, lr5, lr6, lr7, b3, Ty.d, Ty.h]
  | .int, n + 1, S, hn => by rw [callF_on h]; simp [runD, exSs, exS, evE, evT, evEs, evL, evI, evIfs, evAnd, evOr, evAndT, evOrT, startD, getV, putV, getO, putVs, putT, wipeE, idxD, sliceD, isAbs, partD, biD, one1, lenD, intD, absD, tupleD, listS, max2D, maxD, maxI, intsD, isTD, tyD, isT, binD, cmpD, isD, n_non, n_tup, n_lst, n_int, n_str, n_bl, truD, lstAt, itemsD, forD, compD, turnF, turnC, kept_none, szOk, rg_nat, rangeL, at0, at1, at2, at3, at4, at5, at6, ix0, ix1, gc_same, gc_len, eq_int, eq_str, eq_bl, str_inj, str_beq, cut1, cut2, lr0, lr1, lr2, lr3, lr4, lr5, lr6, lr7, b3, Ty.d, Ty.h]
  | .bool, n + 1, S, hn => by rw [callF_on h]; simp [runD, exSs, exS, evE, evT, evEs, evL, evI, evIfs, evAnd, evOr, evAndT, evOrT, startD, getV, putV, getO, putVs, putT, wipeE, idxD, sliceD, isAbs, partD, biD, one1, lenD, intD, absD, tupleD, listS, max2D, maxD, maxI, intsD, isTD, tyD, isT, binD, cmpD, isD, n_non, n_tup, n_lst, n_int, n_str, n_bl, truD, lstAt, itemsD, forD, compD, turnF, turnC, kept_none, szOk, rg_nat, rangeL, at0, at1, at2, at3, at4, at5, at6, ix0, ix1, gc_same, gc_len, eq_int, eq_str, eq_bl, str_inj, str_beq, cut1, cut2, lr0, lr1, lr2, lr3, lr4, lr5, lr6, lr7, b3, Ty.d, Ty.h]
  | .unit, n + 1, S, hn => by rw [callF_on h]; simp [runD, exSs, exS, evE, evT, evEs, evL, evI, evIfs, evAnd, evOr, evAndT, evOrT, startD, getV, putV, getO, putVs, putT, wipeE, idxD, sliceD, isAbs, partD, biD, one1, lenD, intD, absD, tupleD, listS, max2D, maxD, maxI, intsD, isTD, tyD, isT, binD, cmpD, isD, n_non, n_tup, n_lst, n_int, n_str, n_bl, truD, lstAt, itemsD, forD, compD, turnF, turnC, kept_none, szOk, rg_nat, rangeL, at0, at1, at2, at3, at4, at5, at6, ix0, ix1, gc_same, gc_len, eq_int, eq_str, eq_bl, str_inj, str_beq, cut1, cut2, lr0, lr1, lr2, lr3, lr4, lr5, lr6, lr7, b3, Ty.d, Ty.h]
  | .fn a b, n + 1, S, hn => by
    have e1 := fun S => height_ok h a (n := n) S (by simp [Ty.h] at hn; omega)
    have e2 := fun S => height_ok h b (n := n) S (by simp [Ty.h] at hn; omega)
    rw [callF_on h]; simp [runD, exSs, exS, evE, evT, evEs, evL, evI, evIfs, evAnd, evOr, evAndT, evOrT, startD, getV, putV, getO, putVs, putT, wipeE, idxD, sliceD, isAbs, partD, biD, one1, lenD, intD, absD, tupleD, listS, max2D, maxD, maxI, intsD, isTD, tyD, isT, binD, cmpD, isD, n_non, n_tup, n_lst, n_int, n_str, n_bl, truD, lstAt, itemsD, forD, compD, turnF, turnC, kept_none, szOk, rg_nat, rangeL, at0, at1, at2, at3, at4, at5, at6, ix0, ix1, gc_same, gc_len, eq_int, eq_str, eq_bl, str_inj, str_beq, cut1, cut2, lr0, lr1, lr2, lr3, lr4, lr5, lr6, lr7, b3, Ty.d, Ty.h, e1, e2]
    omega
  | .pair a b, n + 1, S, hn => by
    have e1 := fun S => height_ok h a (n := n) S (by simp [Ty.h] at hn; omega)
    have e2 := fun S => height_ok h b (n := n) S (by simp [Ty.h] at hn; omega)
    rw [callF_on h]; simp [runD, exSs, exS, evE, evT, evEs, evL, evI, evIfs, evAnd, evOr, evAndT, evOrT, startD, getV, putV, getO, putVs, putT, wipeE, idxD, sliceD, isAbs, partD, biD, one1, lenD, intD, absD, tupleD, listS, max2D, maxD, maxI, intsD, isTD, tyD, isT, binD, cmpD, isD, n_non, n_tup, n_lst, n_int, n_str, n_bl, truD, lstAt, itemsD, forD, compD, turnF, turnC, kept_none, szOk, rg_nat, rangeL, at0, at1, at2, at3, at4, at5, at6, ix0, ix1, gc_same, gc_len, eq_int, eq_str, eq_bl, str_inj, str_beq, cut1, cut2, lr0, lr1, lr2, lr3, lr4, lr5, lr6, lr7, b3, Ty.d, Ty.h, e1, e2]
    omega
  | .box a, n + 1, S, hn => by
    have e1 := fun S => height_ok h a (n := n) S (by simp [Ty.h] at hn; omega)
    rw [callF_on h]; simp [runD, exSs, exS, evE, evT, evEs, evL, evI, evIfs, evAnd, evOr, evAndT, evOrT, startD, getV, putV, getO, putVs, putT, wipeE, idxD, sliceD, isAbs, partD, biD, one1, lenD, intD, absD, tupleD, listS, max2D, maxD, maxI, intsD, isTD, tyD, isT, binD, cmpD, isD, n_non, n_tup, n_lst, n_int, n_str, n_bl, truD, lstAt, itemsD, forD, compD, turnF, turnC, kept_none, szOk, rg_nat, rangeL, at0, at1, at2, at3, at4, at5, at6, ix0, ix1, gc_same, gc_len, eq_int, eq_str, eq_bl, str_inj, str_beq, cut1, cut2, lr0, lr1, lr2, lr3, lr4, lr5, lr6, lr7, b3, Ty.d, Ty.h, e1]
    omega
theorem high_ok (h : defs 11 = some fd11) : ∀ (t : Ty) {n : Nat} (S : Store), t.h ≤ n → callF P defs n 11 [t.d] S = some (.int t.h, S)
  | t, 0, S, hn => by have := t.h_pos; omega
  | .any, n + 1, S, hn => by rw [callF_on h]; simp [runD, exSs, exS, evE, evT, evEs, evL, evI, evIfs, evAnd, evOr, evAndT, evOrT, startD, getV, putV, getO, putVs, putT, wipeE, idxD, sliceD, isAbs, partD, biD, one1, lenD, intD, absD, tupleD, listS, max2D, maxD, maxI, intsD, isTD, tyD, isT, binD, cmpD, isD, n_non, n_tup, n_lst, n_int, n_str, n_bl, truD, lstAt, itemsD, forD, compD, turnF, turnC, kept_none, szOk, rg_nat, rangeL, at0, at1, at2, at3, at4, at5, at6, ix0, ix1, gc_same, gc_len, eq_int, eq_str, eq_bl, str_inj, str_beq, cut1, cut2, lr0, lr1, lr2, lr3, lr4, lr5, lr6, lr7, b11, Ty.d, Ty.h]
  | .int, n + 1, S, hn => by rw [callF_on h]; simp [runD, exSs, exS, evE, evT, evEs, evL, evI, evIfs, evAnd, evOr, evAndT, evOrT, startD, getV, putV, getO, putVs, putT, wipeE, idxD, sliceD, isAbs, partD, biD, one1, lenD, intD, absD, tupleD, listS, max2D, maxD, maxI, intsD, isTD, tyD, isT, binD, cmpD, isD, n_non, n_tup, n_lst, n_int, n_str, n_bl, truD, lstAt, itemsD, forD, compD, turnF, turnC, kept_none, szOk, rg_nat, rangeL, at0, at1, at2, at3, at4, at5, at6, ix0, ix1, gc_same, gc_len, eq_int, eq_str, eq_bl, str_inj, str_beq, cut1, cut2, lr0, lr1, lr2, lr3, lr4, lr5, lr6, lr7, b11, Ty.d, Ty.h]
  | .bool, n + 1, S, hn => by rw [callF_on h]; simp [runD, exSs, exS, evE, evT, evEs, evL, evI, evIfs, evAnd, evOr, evAndT, evOrT, startD, getV, putV, getO, putVs, putT, wipeE, idxD, sliceD, isAbs, partD, biD, one1, lenD, intD, absD, tupleD, listS, max2D, maxD, maxI, intsD, isTD, tyD, isT, binD, cmpD, isD, n_non, n_tup, n_lst, n_int, n_str, n_bl, truD, lstAt, itemsD, forD, compD, turnF, turnC, kept_none, szOk, rg_nat, rangeL, at0, at1, at2, at3, at4, at5, at6, ix0, ix1, gc_same, gc_len, eq_int, eq_str, eq_bl, str_inj, str_beq, cut1, cut2, lr0, lr1, lr2, lr3, lr4, lr5, lr6, lr7, b11, Ty.d, Ty.h]
  | .unit, n + 1, S, hn => by rw [callF_on h]; simp [runD, exSs, exS, evE, evT, evEs, evL, evI, evIfs, evAnd, evOr, evAndT, evOrT, startD, getV, putV, getO, putVs, putT, wipeE, idxD, sliceD, isAbs, partD, biD, one1, lenD, intD, absD, tupleD, listS, max2D, maxD, maxI, intsD, isTD, tyD, isT, binD, cmpD, isD, n_non, n_tup, n_lst, n_int, n_str, n_bl, truD, lstAt, itemsD, forD, compD, turnF, turnC, kept_none, szOk, rg_nat, rangeL, at0, at1, at2, at3, at4, at5, at6, ix0, ix1, gc_same, gc_len, eq_int, eq_str, eq_bl, str_inj, str_beq, cut1, cut2, lr0, lr1, lr2, lr3, lr4, lr5, lr6, lr7, b11, Ty.d, Ty.h]
  | .fn a b, n + 1, S, hn => by
    have e1 := fun S => high_ok h a (n := n) S (by simp [Ty.h] at hn; omega)
    have e2 := fun S => high_ok h b (n := n) S (by simp [Ty.h] at hn; omega)
    rw [callF_on h]; simp [runD, exSs, exS, evE, evT, evEs, evL, evI, evIfs, evAnd, evOr, evAndT, evOrT, startD, getV, putV, getO, putVs, putT, wipeE, idxD, sliceD, isAbs, partD, biD, one1, lenD, intD, absD, tupleD, listS, max2D, maxD, maxI, intsD, isTD, tyD, isT, binD, cmpD, isD, n_non, n_tup, n_lst, n_int, n_str, n_bl, truD, lstAt, itemsD, forD, compD, turnF, turnC, kept_none, szOk, rg_nat, rangeL, at0, at1, at2, at3, at4, at5, at6, ix0, ix1, gc_same, gc_len, eq_int, eq_str, eq_bl, str_inj, str_beq, cut1, cut2, lr0, lr1, lr2, lr3, lr4, lr5, lr6, lr7, b11, Ty.d, Ty.h, e1, e2]
    omega
  | .pair a b, n + 1, S, hn => by
    have e1 := fun S => high_ok h a (n := n) S (by simp [Ty.h] at hn; omega)
    have e2 := fun S => high_ok h b (n := n) S (by simp [Ty.h] at hn; omega)
    rw [callF_on h]; simp [runD, exSs, exS, evE, evT, evEs, evL, evI, evIfs, evAnd, evOr, evAndT, evOrT, startD, getV, putV, getO, putVs, putT, wipeE, idxD, sliceD, isAbs, partD, biD, one1, lenD, intD, absD, tupleD, listS, max2D, maxD, maxI, intsD, isTD, tyD, isT, binD, cmpD, isD, n_non, n_tup, n_lst, n_int, n_str, n_bl, truD, lstAt, itemsD, forD, compD, turnF, turnC, kept_none, szOk, rg_nat, rangeL, at0, at1, at2, at3, at4, at5, at6, ix0, ix1, gc_same, gc_len, eq_int, eq_str, eq_bl, str_inj, str_beq, cut1, cut2, lr0, lr1, lr2, lr3, lr4, lr5, lr6, lr7, b11, Ty.d, Ty.h, e1, e2]
    omega
  | .box a, n + 1, S, hn => by
    have e1 := fun S => high_ok h a (n := n) S (by simp [Ty.h] at hn; omega)
    rw [callF_on h]; simp [runD, exSs, exS, evE, evT, evEs, evL, evI, evIfs, evAnd, evOr, evAndT, evOrT, startD, getV, putV, getO, putVs, putT, wipeE, idxD, sliceD, isAbs, partD, biD, one1, lenD, intD, absD, tupleD, listS, max2D, maxD, maxI, intsD, isTD, tyD, isT, binD, cmpD, isD, n_non, n_tup, n_lst, n_int, n_str, n_bl, truD, lstAt, itemsD, forD, compD, turnF, turnC, kept_none, szOk, rg_nat, rangeL, at0, at1, at2, at3, at4, at5, at6, ix0, ix1, gc_same, gc_len, eq_int, eq_str, eq_bl, str_inj, str_beq, cut1, cut2, lr0, lr1, lr2, lr3, lr4, lr5, lr6, lr7, b11, Ty.d, Ty.h, e1]
    omega
theorem same_ok (h : defs 15 = some fd15) (a b : Bool) {n : Nat} (S : Store) : callF P defs (n + 1) 15 [.bl a, .bl b] S = some (.bl (a == b), S) := by
  rw [callF_on h]; simp [runD, exSs, exS, evE, evT, evEs, evL, evI, evIfs, evAnd, evOr, evAndT, evOrT, startD, getV, putV, getO, putVs, putT, wipeE, idxD, sliceD, isAbs, partD, biD, one1, lenD, intD, absD, tupleD, listS, max2D, maxD, maxI, intsD, isTD, tyD, isT, binD, cmpD, isD, n_non, n_tup, n_lst, n_int, n_str, n_bl, truD, lstAt, itemsD, forD, compD, turnF, turnC, kept_none, szOk, rg_nat, rangeL, at0, at1, at2, at3, at4, at5, at6, ix0, ix1, gc_same, gc_len, eq_int, eq_str, eq_bl, str_inj, str_beq, cut1, cut2, lr0, lr1, lr2, lr3, lr4, lr5, lr6, lr7, b15]
end
end HN

set_option maxHeartbeats 0
/-! Types: the plain laws. -/
namespace HN
open PySem L2
theorem Ty.fits_comm : ∀ a b : Ty, a.fits b = b.fits a
  | .any, b => by cases b <;> rfl
  | .int, b => by cases b <;> rfl
  | .bool, b => by cases b <;> rfl
  | .unit, b => by cases b <;> rfl
  | .fn a1 a2, b => by cases b <;> simp [Ty.fits, Ty.fits_comm a1, Ty.fits_comm a2]
  | .pair a1 a2, b => by cases b <;> simp [Ty.fits, Ty.fits_comm a1, Ty.fits_comm a2]
  | .box a1, b => by cases b <;> simp [Ty.fits, Ty.fits_comm a1]
theorem Ty.meet_comm : ∀ a b : Ty, a.fits b = true → a.meet b = b.meet a
  | .any, b, h => by cases b <;> rfl
  | .int, b, h => by cases b <;> first | rfl | exact nb h
  | .bool, b, h => by cases b <;> first | rfl | exact nb h
  | .unit, b, h => by cases b <;> first | rfl | exact nb h
  | .fn a1 a2, b, h => by
    cases b <;> first | rfl | exact nb h | skip
    obtain ⟨h1, h2⟩ := and2 h
    show Ty.fn _ _ = Ty.fn _ _
    rw [Ty.meet_comm _ _ h1, Ty.meet_comm _ _ h2]
  | .pair a1 a2, b, h => by
    cases b <;> first | rfl | exact nb h | skip
    obtain ⟨h1, h2⟩ := and2 h
    show Ty.pair _ _ = Ty.pair _ _
    rw [Ty.meet_comm _ _ h1, Ty.meet_comm _ _ h2]
  | .box a1, b, h => by
    cases b <;> first | rfl | exact nb h | skip
    rename_i c
    show Ty.box _ = Ty.box _
    rw [Ty.meet_comm a1 c h]
theorem Ty.le_refl : ∀ a : Ty, a.le a = true
  | .any => rfl
  | .int => rfl
  | .bool => rfl
  | .unit => rfl
  | .fn a b => by simp [Ty.le, Ty.le_refl a, Ty.le_refl b]
  | .pair a b => by simp [Ty.le, Ty.le_refl a, Ty.le_refl b]
  | .box a => by simp [Ty.le, Ty.le_refl a]
theorem Ty.le_meet : ∀ a b : Ty, a.fits b = true → a.le (a.meet b) = true
  | .any, b, h => by cases b <;> rfl
  | .int, b, h => by cases b <;> first | rfl | exact nb h
  | .bool, b, h => by cases b <;> first | rfl | exact nb h
  | .unit, b, h => by cases b <;> first | rfl | exact nb h
  | .fn a1 a2, b, h => by
    cases b <;> first | exact Ty.le_refl _ | exact nb h | skip
    obtain ⟨h1, h2⟩ := and2 h
    simp [Ty.meet, Ty.le, Ty.le_meet _ _ h1, Ty.le_meet _ _ h2]
  | .pair a1 a2, b, h => by
    cases b <;> first | exact Ty.le_refl _ | exact nb h | skip
    obtain ⟨h1, h2⟩ := and2 h
    simp [Ty.meet, Ty.le, Ty.le_meet _ _ h1, Ty.le_meet _ _ h2]
  | .box a1, b, h => by
    cases b <;> first | exact Ty.le_refl _ | exact nb h | skip
    have h : a1.fits _ = true := h
    simp [Ty.meet, Ty.le, Ty.le_meet _ _ h]
theorem Ty.le_meet2 {a b : Ty} (h : a.fits b = true) : b.le (a.meet b) = true := by
  rw [Ty.meet_comm _ _ h]
  exact Ty.le_meet _ _ (by rw [Ty.fits_comm]; exact h)
theorem Ty.meet_le : ∀ a b c : Ty, a.fits b = true → a.le c = true → b.le c = true → (a.meet b).le c = true
  | .any, b, c, h, h1, h2 => by cases b <;> exact h2
  | .int, b, c, h, h1, h2 => by cases b <;> first | exact h1 | exact nb h
  | .bool, b, c, h, h1, h2 => by cases b <;> first | exact h1 | exact nb h
  | .unit, b, c, h, h1, h2 => by cases b <;> first | exact h1 | exact nb h
  | .fn a1 a2, b, c, h, h1, h2 => by
    cases b <;> first | exact h1 | exact nb h | skip
    cases c <;> first | exact nb h1 | skip
    obtain ⟨k1, k2⟩ := and2 h
    obtain ⟨k3, k4⟩ := and2 h1
    obtain ⟨k5, k6⟩ := and2 h2
    simp [Ty.meet, Ty.le, Ty.meet_le _ _ _ k1 k3 k5, Ty.meet_le _ _ _ k2 k4 k6]
  | .pair a1 a2, b, c, h, h1, h2 => by
    cases b <;> first | exact h1 | exact nb h | skip
    cases c <;> first | exact nb h1 | skip
    obtain ⟨k1, k2⟩ := and2 h
    obtain ⟨k3, k4⟩ := and2 h1
    obtain ⟨k5, k6⟩ := and2 h2
    simp [Ty.meet, Ty.le, Ty.meet_le _ _ _ k1 k3 k5, Ty.meet_le _ _ _ k2 k4 k6]
  | .box a1, b, c, h, h1, h2 => by
    cases b <;> first | exact h1 | exact nb h | skip
    cases c <;> first | exact nb h1 | skip
    have k := Ty.meet_le _ _ _ (show a1.fits _ = true from h) (show a1.le _ = true from h1) (show Ty.le _ _ = true from h2)
    exact k
theorem Ty.h_meet : ∀ a b : Ty, (a.meet b).h ≤ max a.h b.h
  | .any, b => by cases b <;> simp [Ty.meet, Ty.h] <;> omega
  | .int, b => by cases b <;> simp [Ty.meet, Ty.h] <;> omega
  | .bool, b => by cases b <;> simp [Ty.meet, Ty.h] <;> omega
  | .unit, b => by cases b <;> simp [Ty.meet, Ty.h] <;> omega
  | .fn a1 a2, b => by
    cases b <;> simp [Ty.meet, Ty.h] <;> try omega
    rename_i b1 b2
    have := Ty.h_meet a1 b1
    have := Ty.h_meet a2 b2
    omega
  | .pair a1 a2, b => by
    cases b <;> simp [Ty.meet, Ty.h] <;> try omega
    rename_i b1 b2
    have := Ty.h_meet a1 b1
    have := Ty.h_meet a2 b2
    omega
  | .box a1, b => by
    cases b <;> simp [Ty.meet, Ty.h] <;> try omega
    rename_i b1
    have := Ty.h_meet a1 b1
    omega
theorem gcD_fst {S S1 : Store} {d : D} : ∃ S', gcD S (d, S1) = (d, S') := by
  unfold gcD
  split
  · exact ⟨_, rfl⟩
  · exact ⟨_, rfl⟩
/-! ### parts of a body -/
def Ss.take : Nat → Ss → Ss
  | 0, _ => .nil
  | _ + 1, .nil => .nil
  | k + 1, .cons s r => .cons s (Ss.take k r)
def Ss.drop : Nat → Ss → Ss
  | 0, b => b
  | _ + 1, .nil => .nil
  | k + 1, .cons s r => Ss.drop k r
theorem exSs_cut {P : Prg} {c m : CallF} : ∀ (k : Nat) (b : Ss) (ρ : Env) (S : Store), exSs P c m b ρ S = (exSs P c m (b.take k) ρ S).bind fun r => match r with | .nx ρ1 S1 => exSs P c m (b.drop k) ρ1 S1 | .rt d S1 => some (.rt d S1)
  | 0, b, ρ, S => rfl
  | k + 1, .nil, ρ, S => rfl
  | k + 1, .cons s r, ρ, S => by
    show (exS P c m s ρ S).bind _ = ((exS P c m s ρ S).bind _).bind _
    cases exS P c m s ρ S with
    | none => rfl
    | some f =>
      cases f with
      | nx ρ1 S1 => exact exSs_cut k r ρ1 S1
      | rt d S1 => rfl
theorem exSs_at {P : Prg} {c m : CallF} {k : Nat} {b : Ss} {ρ ρ1 : Env} {S S1 : Store} (h : exSs P c m (b.take k) ρ S = some (.nx ρ1 S1)) : exSs P c m b ρ S = exSs P c m (b.drop k) ρ1 S1 := by
  rw [exSs_cut k b, h] <;> rfl
theorem law_of {P : Prg} {defs : Nat → Option FD} {n k f : Nat} {fd : FD} {ds : List D} {ρ1 : Env} {S1 S2 : Store} (h : defs f = some fd) (hp : ds.length = fd.params)
    (e1 : exSs P (callF P defs n) (callP P defs n).2 (fd.body.take k) (startD fd.slots ds) [] = some (.nx ρ1 S1)) (e2 : exSs P (callF P defs n) (callP P defs n).2 (fd.body.drop k) ρ1 S1 = some (.rt (.bl true) S2)) : ∃ S, callF P defs (n + 1) f ds [] = some (.bl true, S) := by
  obtain ⟨S', hg⟩ := gcD_fst (S := []) (S1 := S2) (d := .bl true)
  refine ⟨S', ?_⟩
  rw [callF_on h]
  unfold runD
  rw [if_pos hp, exSs_at e1, e2]
  show some (gcD [] (D.bl true, S2)) = _
  rw [hg]
end HN

set_option maxHeartbeats 0
/-! Types: grounds. -/
namespace HN
open PySem L2
def dtG : List (Str × D) := [("int", Ty.d .int), ("bool", Ty.d .bool), ("unit", Ty.d .unit), ("fun", Ty.d (.fn .any .any)), ("pair", Ty.d (.pair .any .any)), ("box", Ty.d (.box .any))]
section
variable {P : Prg} {defs : Nat → Option FD}
theorem ground_ok (h : defs 12 = some fd12) {n : Nat} (s : Str) (l : List D) (S : Store) : callF P defs (n + 1) 12 [.tup (.str s :: l)] S = some (.str s, S) := by
  rw [callF_on h]; simp [runD, exSs, exS, evE, evT, evEs, evL, evI, evIfs, evAnd, evOr, evAndT, evOrT, startD, getV, putV, getO, putVs, putT, wipeE, idxD, sliceD, isAbs, partD, biD, one1, lenD, intD, absD, tupleD, listS, max2D, maxD, maxI, intsD, isTD, tyD, isT, binD, cmpD, isD, n_non, n_tup, n_lst, n_int, n_str, n_bl, truD, lstAt, itemsD, forD, compD, turnF, turnC, kept_none, szOk, rg_nat, rangeL, at0, at1, at2, at3, at4, at5, at6, ix0, ix1, gc_same, gc_len, eq_int, eq_str, eq_bl, str_inj, str_beq, cut1, cut2, lr0, lr1, lr2, lr3, lr4, lr5, lr6, lr7, b12]
theorem gtype_ok (h : defs 13 = some fd13) (hd : P.gdict 0 = dtG) {n : Nat} {s : Str} {d : D} (hs : dtG.lookup s = some d) (S : Store) : callF P defs (n + 1) 13 [.str s] S = some (d, S) := by
  rw [callF_on h]; simp [runD, exSs, exS, evE, evT, evEs, evL, evI, evIfs, evAnd, evOr, evAndT, evOrT, startD, getV, putV, getO, putVs, putT, wipeE, idxD, sliceD, isAbs, partD, biD, one1, lenD, intD, absD, tupleD, listS, max2D, maxD, maxI, intsD, isTD, tyD, isT, binD, cmpD, isD, n_non, n_tup, n_lst, n_int, n_str, n_bl, truD, lstAt, itemsD, forD, compD, turnF, turnC, kept_none, szOk, rg_nat, rangeL, at0, at1, at2, at3, at4, at5, at6, ix0, ix1, gc_same, gc_len, eq_int, eq_str, eq_bl, str_inj, str_beq, cut1, cut2, lr0, lr1, lr2, lr3, lr4, lr5, lr6, lr7, b13, hd, hs]
end
def Ty.base : Ty → Ty
  | .fn _ _ => .fn .any .any
  | .pair _ _ => .pair .any .any
  | .box _ => .box .any
  | a => a
theorem Ty.base_d (a : Ty) (ha : a ≠ .any) : ∃ s l, a.d = .tup (.str s :: l) ∧ dtG.lookup s = some a.base.d := by
  cases a <;> first | exact absurd rfl ha | skip
  all_goals exact ⟨_, _, rfl, rfl⟩
theorem Ty.base_h (a : Ty) : a.base.h ≤ 2 := by cases a <;> simp [Ty.base, Ty.h]
end HN

set_option maxHeartbeats 0
/-! Checks: what they are, joining them, the first blame (plain part). -/
namespace HN
open PySem L2
inductive Kd where
  | int | bool | unit | fn | pair | box
deriving DecidableEq
def Kd.s : Kd → Str
  | .int => "int" | .bool => "bool" | .unit => "unit" | .fn => "fun" | .pair => "pair" | .box => "box"
def Kd.base : Kd → Ty
  | .int => .int | .bool => .bool | .unit => .unit | .fn => .fn .any .any | .pair => .pair .any .any | .box => .box .any
def Ty.kd : Ty → Option Kd
  | .any => none | .int => some .int | .bool => some .bool | .unit => some .unit | .fn _ _ => some .fn | .pair _ _ => some .pair | .box _ => some .box
inductive Ck where
  | any | same (k : Kd) | fn (a b : Ck) | pair (a b : Ck) | box (a b : Ck) | give (c : Ck) | take (k : Kd) (n s : Int) (c : Ck) | fail (k : Kd) (n s : Int) (k' : Kd)
def Ck.d : Ck → D
  | .any => .tup [.str "any"]
  | .same k => .tup [.str "same", .str k.s]
  | .fn a b => .tup [.str "fun", a.d, b.d]
  | .pair a b => .tup [.str "pair", a.d, b.d]
  | .box a b => .tup [.str "box", a.d, b.d]
  | .give c => .tup [.str "give", c.d]
  | .take k n s c => .tup [.str "take", .str k.s, .tup [.int n, .int s], c.d]
  | .fail k n s k' => .tup [.str "fail", .str k.s, .tup [.int n, .int s], .str k'.s]
/-- the ground of a plain check -/
def Ck.pg : Ck → Option Kd
  | .same k => some k | .fn _ _ => some .fn | .pair _ _ => some .pair | .box _ _ => some .box
  | _ => none
/-- a check from S to T -/
def Ck.ok : Ck → Ty → Ty → Prop
  | .any, S, T => S = .any ∧ T = .any
  | .same k, S, T => S = k.base ∧ T = k.base ∧ (k = .int ∨ k = .bool ∨ k = .unit)
  | .fn a b, S, T => ∃ A B C E, S = .fn A B ∧ T = .fn C E ∧ a.ok C A ∧ b.ok B E
  | .pair a b, S, T => ∃ A B C E, S = .pair A B ∧ T = .pair C E ∧ a.ok A C ∧ b.ok B E
  | .box a b, S, T => ∃ A C, S = .box A ∧ T = .box C ∧ a.ok C A ∧ b.ok A C
  | .give c, S, T => T = .any ∧ ∃ k, S.kd = some k ∧ c.pg = some k ∧ c.ok S k.base
  | .take k _ _ c, S, T => S = .any ∧ c.ok k.base T
  | .fail k _ _ _, S, _ => S.kd = some k
/-- how deep the check goes, give and take not told -/
def Ck.ht : Ck → Nat
  | .any => 1
  | .same _ => 1
  | .fn a b => max a.ht b.ht + 1
  | .pair a b => max a.ht b.ht + 1
  | .box a b => max a.ht b.ht + 1
  | .give c => c.ht
  | .take _ _ _ c => c.ht
  | .fail _ _ _ _ => 1
def Ck.dp : Ck → Nat
  | .any => 1
  | .same _ => 1
  | .fn a b => max a.dp b.dp + 1
  | .pair a b => max a.dp b.dp + 1
  | .box a b => max a.dp b.dp + 1
  | .give c => c.dp + 1
  | .take _ _ _ c => c.dp + 1
  | .fail _ _ _ _ => 1
theorem Ck.dp_pos (c : Ck) : 1 ≤ c.dp := by cases c <;> simp [Ck.dp]
def Ck.join : Ck → Ck → Ck
  | .any, d => d
  | .fail k n s k', _ => .fail k n s k'
  | .take k n s c, d => .take k n s (Ck.join c d)
  | .give c, .take k n s d => if c.pg = some k then Ck.join c d else .fail (c.pg.getD .int) n s k
  | .give c, _ => .give c
  | .same k, .fail k2 n s k' => .fail k2 n s k'
  | .fn _ _, .fail k2 n s k' => .fail k2 n s k'
  | .pair _ _, .fail k2 n s k' => .fail k2 n s k'
  | .box _ _, .fail k2 n s k' => .fail k2 n s k'
  | .same k, .give _ => .give (.same k)
  | .fn a b, .give (.fn c d) => .give (.fn (Ck.join c a) (Ck.join b d))
  | .pair a b, .give (.pair c d) => .give (.pair (Ck.join a c) (Ck.join b d))
  | .box a b, .give (.box c d) => .give (.box (Ck.join c a) (Ck.join b d))
  | .same k, _ => .same k
  | .fn a b, .fn c d => .fn (Ck.join c a) (Ck.join b d)
  | .pair a b, .pair c d => .pair (Ck.join a c) (Ck.join b d)
  | .box a b, .box c d => .box (Ck.join c a) (Ck.join b d)
  | c, _ => c
termination_by c d => c.dp + d.dp
decreasing_by all_goals simp only [Ck.dp]; omega
theorem Kd.base_kd (k : Kd) : k.base.kd = some k := by cases k <;> rfl
theorem Ck.plain_ok {c : Ck} {S T : Ty} {k : Kd} (h : c.ok S T) (hp : c.pg = some k) : S.kd = some k ∧ T.kd = some k := by
  cases c <;> simp [Ck.pg] at hp
  · subst hp
    obtain ⟨rfl, rfl, _⟩ := h
    exact ⟨Kd.base_kd _, Kd.base_kd _⟩
  · subst hp
    obtain ⟨A, B, C, E, rfl, rfl, _⟩ := h
    exact ⟨rfl, rfl⟩
  · subst hp
    obtain ⟨A, B, C, E, rfl, rfl, _⟩ := h
    exact ⟨rfl, rfl⟩
  · subst hp
    obtain ⟨A, C, rfl, rfl, _⟩ := h
    exact ⟨rfl, rfl⟩
theorem base_ne {k : Kd} (h : k.base = .any) : False := by cases k <;> cases h
theorem any_kd {k : Kd} (h : Ty.any.kd = some k) : False := by cases h
theorem Ck.join_okN : ∀ (m : Nat) (c d : Ck) (S T U : Ty), c.dp + d.dp ≤ m → c.ok S T → d.ok T U → (c.join d).ok S U
  | 0, c, d, S, T, U, hn, _, _ => by have := c.dp_pos; omega
  | m + 1, .any, d, S, T, U, hn, h1, h2 => by
    obtain ⟨rfl, rfl⟩ := h1
    rw [Ck.join]
    exact h2
  | m + 1, .fail k n s k', d, S, T, U, hn, h1, h2 => by
    rw [Ck.join]
    exact h1
  | m + 1, .take k n s c, d, S, T, U, hn, h1, h2 => by
    rw [Ck.join]
    exact ⟨h1.1, Ck.join_okN m c d k.base T U (by simp only [Ck.dp] at hn; omega) h1.2 h2⟩
  | m + 1, .give c, d, S, T, U, hn, h1, h2 => by
    obtain ⟨rfl, k, h3, h4, h5⟩ := h1
    cases d with
    | any =>
      obtain ⟨_, rfl⟩ := h2
      simp only [Ck.join]
      exact ⟨rfl, k, h3, h4, h5⟩
    | take k' n s d =>
      obtain ⟨_, h6⟩ := h2
      rw [Ck.join]
      by_cases e : c.pg = some k'
      · rw [if_pos e]
        rw [h4] at e
        cases e
        exact Ck.join_okN m c d S k.base U (by simp only [Ck.dp] at hn; omega) h5 h6
      · rw [if_neg e]
        show S.kd = some (c.pg.getD .int)
        rw [h4]
        exact h3
    | same k' => exact (base_ne h2.1.symm).elim
    | fn a b => obtain ⟨A, B, C, E, e, _⟩ := h2; cases e
    | pair a b => obtain ⟨A, B, C, E, e, _⟩ := h2; cases e
    | box a b => obtain ⟨A, C, e, _⟩ := h2; cases e
    | give c => obtain ⟨_, k2, e, _⟩ := h2; cases e
    | fail k' n s k2 => exact (any_kd h2).elim
  | m + 1, .same k, d, S, T, U, hn, h1, h2 => by
    obtain ⟨rfl, rfl, hk⟩ := h1
    cases d with
    | any => exact (base_ne h2.1).elim
    | take k' n s d => exact (base_ne h2.1).elim
    | same k' =>
      obtain ⟨e1, rfl, _⟩ := h2
      simp only [Ck.join]
      exact ⟨rfl, e1.symm ▸ rfl, hk⟩
    | fn a b => obtain ⟨A, B, C, E, e, _⟩ := h2; rcases hk with rfl | rfl | rfl <;> cases e
    | pair a b => obtain ⟨A, B, C, E, e, _⟩ := h2; rcases hk with rfl | rfl | rfl <;> cases e
    | box a b => obtain ⟨A, C, e, _⟩ := h2; rcases hk with rfl | rfl | rfl <;> cases e
    | give c =>
      obtain ⟨rfl, k2, e1, e2, e3⟩ := h2
      simp only [Ck.join]
      exact ⟨rfl, k, Kd.base_kd k, rfl, rfl, rfl, hk⟩
    | fail k' n s k2 =>
      simp only [Ck.join]
      exact h2
  | m + 1, .fn a b, d, S, T, U, hn, h1, h2 => by
    obtain ⟨A, B, C, E, rfl, rfl, ha, hb⟩ := h1
    cases d with
    | any => cases h2.1
    | take k' n s d => cases h2.1
    | same k' => rcases h2.2.2 with rfl | rfl | rfl <;> cases h2.1
    | fn c d =>
      obtain ⟨A2, B2, C2, E2, e, rfl, hc, hd⟩ := h2
      cases e
      rw [Ck.join]
      exact ⟨_, _, _, _, rfl, rfl, Ck.join_okN m c a _ _ _ (by simp only [Ck.dp] at hn; omega) hc ha, Ck.join_okN m b d _ _ _ (by simp only [Ck.dp] at hn; omega) hb hd⟩
    | pair c d => obtain ⟨A2, B2, C2, E2, e, _⟩ := h2; cases e
    | box c d => obtain ⟨A2, C2, e, _⟩ := h2; cases e
    | give c =>
      obtain ⟨rfl, k2, e1, e2, e3⟩ := h2
      cases e1
      cases c <;> simp only [Ck.pg, reduceCtorEq, Option.some.injEq] at e2
      · subst e2; obtain ⟨_, _, hk⟩ := e3; rcases hk with h | h | h <;> cases h
      · rename_i c d
        obtain ⟨A2, B2, C2, E2, e, e', hc, hd⟩ := e3
        cases e
        cases e'
        rw [Ck.join]
        exact ⟨rfl, .fn, rfl, rfl, _, _, _, _, rfl, rfl, Ck.join_okN m c a _ _ _ (by simp only [Ck.dp] at hn; omega) hc ha, Ck.join_okN m b d _ _ _ (by simp only [Ck.dp] at hn; omega) hb hd⟩
    | fail k' n s k2 =>
      simp only [Ck.join]
      exact h2
  | m + 1, .pair a b, d, S, T, U, hn, h1, h2 => by
    obtain ⟨A, B, C, E, rfl, rfl, ha, hb⟩ := h1
    cases d with
    | any => cases h2.1
    | take k' n s d => cases h2.1
    | same k' => rcases h2.2.2 with rfl | rfl | rfl <;> cases h2.1
    | pair c d =>
      obtain ⟨A2, B2, C2, E2, e, rfl, hc, hd⟩ := h2
      cases e
      rw [Ck.join]
      exact ⟨_, _, _, _, rfl, rfl, Ck.join_okN m a c _ _ _ (by simp only [Ck.dp] at hn; omega) ha hc, Ck.join_okN m b d _ _ _ (by simp only [Ck.dp] at hn; omega) hb hd⟩
    | fn c d => obtain ⟨A2, B2, C2, E2, e, _⟩ := h2; cases e
    | box c d => obtain ⟨A2, C2, e, _⟩ := h2; cases e
    | give c =>
      obtain ⟨rfl, k2, e1, e2, e3⟩ := h2
      cases e1
      cases c <;> simp only [Ck.pg, reduceCtorEq, Option.some.injEq] at e2
      · subst e2; obtain ⟨_, _, hk⟩ := e3; rcases hk with h | h | h <;> cases h
      · rename_i c d
        obtain ⟨A2, B2, C2, E2, e, e', hc, hd⟩ := e3
        cases e
        cases e'
        rw [Ck.join]
        exact ⟨rfl, .pair, rfl, rfl, _, _, _, _, rfl, rfl, Ck.join_okN m a c _ _ _ (by simp only [Ck.dp] at hn; omega) ha hc, Ck.join_okN m b d _ _ _ (by simp only [Ck.dp] at hn; omega) hb hd⟩
    | fail k' n s k2 =>
      simp only [Ck.join]
      exact h2
  | m + 1, .box a b, d, S, T, U, hn, h1, h2 => by
    obtain ⟨A, C, rfl, rfl, ha, hb⟩ := h1
    cases d with
    | any => cases h2.1
    | take k' n s d => cases h2.1
    | same k' => rcases h2.2.2 with rfl | rfl | rfl <;> cases h2.1
    | box c d =>
      obtain ⟨A2, C2, e, rfl, hc, hd⟩ := h2
      cases e
      rw [Ck.join]
      exact ⟨_, _, rfl, rfl, Ck.join_okN m c a _ _ _ (by simp only [Ck.dp] at hn; omega) hc ha, Ck.join_okN m b d _ _ _ (by simp only [Ck.dp] at hn; omega) hb hd⟩
    | fn c d => obtain ⟨A2, B2, C2, E2, e, _⟩ := h2; cases e
    | pair c d => obtain ⟨A2, B2, C2, E2, e, _⟩ := h2; cases e
    | give c =>
      obtain ⟨rfl, k2, e1, e2, e3⟩ := h2
      cases e1
      cases c <;> simp only [Ck.pg, reduceCtorEq, Option.some.injEq] at e2
      · subst e2; obtain ⟨_, _, hk⟩ := e3; rcases hk with h | h | h <;> cases h
      · rename_i c d
        obtain ⟨A2, C2, e, e', hc, hd⟩ := e3
        cases e
        cases e'
        rw [Ck.join]
        exact ⟨rfl, .box, rfl, rfl, _, _, rfl, rfl, Ck.join_okN m c a _ _ _ (by simp only [Ck.dp] at hn; omega) hc ha, Ck.join_okN m b d _ _ _ (by simp only [Ck.dp] at hn; omega) hb hd⟩
    | fail k' n s k2 =>
      simp only [Ck.join]
      exact h2
theorem Ck.join_ok {c d : Ck} {S T U : Ty} (h1 : c.ok S T) (h2 : d.ok T U) : (c.join d).ok S U := Ck.join_okN _ c d S T U (Nat.le_refl _) h1 h2
def Ck.fb : Ck → Kd → Option (Int × Int)
  | .take k n s c, g => if k = g then Ck.fb c g else some (n, s)
  | .fail _ n s _, _ => some (n, s)
  | _, _ => none
theorem Ck.fb_plain {c : Ck} {k : Kd} (h : c.pg = some k) (g : Kd) : c.fb g = none := by
  cases c <;> first | rfl | cases h
theorem Ck.fb_joinN : ∀ (m : Nat) (c d : Ck) (S T U : Ty) (g : Kd), c.dp + d.dp ≤ m → c.ok S T → d.ok T U → (S.kd = some g ∨ S = .any) → (c.join d).fb g = (c.fb g).or (d.fb g)
  | 0, c, d, S, T, U, g, hn, _, _, _ => by have := c.dp_pos; omega
  | m + 1, .any, d, S, T, U, g, hn, h1, h2, h3 => by
    rw [Ck.join]; rfl
  | m + 1, .fail k n s k', d, S, T, U, g, hn, h1, h2, h3 => by
    rw [Ck.join]; rfl
  | m + 1, .take k n s c, d, S, T, U, g, hn, h1, h2, h3 => by
    rw [Ck.join]
    by_cases e : k = g
    · subst e
      simp only [Ck.fb, if_pos]
      exact Ck.fb_joinN m c d k.base T U k (by simp only [Ck.dp] at hn; omega) h1.2 h2 (.inl (Kd.base_kd k))
    · simp only [Ck.fb, if_neg e]
      rfl
  | m + 1, .give c, d, S, T, U, g, hn, h1, h2, h3 => by
    obtain ⟨rfl, k, h4, h5, h6⟩ := h1
    have hg : k = g := by
      rcases h3 with h3 | h3
      · rw [h4] at h3; cases h3; rfl
      · rw [h3] at h4; cases h4
    subst hg
    cases d with
    | take k' n s d =>
      rw [Ck.join]
      by_cases e : c.pg = some k'
      · rw [if_pos e]
        rw [h5] at e
        cases e
        have z := Ck.fb_joinN m c d S k.base U k (by simp only [Ck.dp] at hn; omega) h6 h2.2 (.inl h4)
        rw [Ck.fb_plain h5] at z
        rw [z]
        simp only [Ck.fb, if_pos]
        try rfl
      · rw [if_neg e]
        have ne : k' ≠ k := fun q => e (by rw [q]; exact h5)
        simp only [Ck.fb, if_neg ne]
        rfl
    | fail k' n s k2 => exact (any_kd h2).elim
    | _ => simp only [Ck.join]; rfl
  | m + 1, .same k, d, S, T, U, g, hn, h1, h2, h3 => by
    cases d with
    | take k' n s d => exact (base_ne (h1.2.1.symm.trans h2.1)).elim
    | _ => simp only [Ck.join]; rfl
  | m + 1, .fn a b, d, S, T, U, g, hn, h1, h2, h3 => by
    obtain ⟨A, B, C, E, rfl, rfl, ha, hb⟩ := h1
    cases d with
    | take k' n s d => cases h2.1
    | give c => cases c <;> simp only [Ck.join] <;> rfl
    | _ => simp only [Ck.join]; rfl
  | m + 1, .pair a b, d, S, T, U, g, hn, h1, h2, h3 => by
    obtain ⟨A, B, C, E, rfl, rfl, ha, hb⟩ := h1
    cases d with
    | take k' n s d => cases h2.1
    | give c => cases c <;> simp only [Ck.join] <;> rfl
    | _ => simp only [Ck.join]; rfl
  | m + 1, .box a b, d, S, T, U, g, hn, h1, h2, h3 => by
    obtain ⟨A, C, rfl, rfl, ha, hb⟩ := h1
    cases d with
    | take k' n s d => cases h2.1
    | give c => cases c <;> simp only [Ck.join] <;> rfl
    | _ => simp only [Ck.join]; rfl
theorem Ck.fb_join {c d : Ck} {S T U : Ty} {g : Kd} (h1 : c.ok S T) (h2 : d.ok T U) (h3 : S.kd = some g ∨ S = .any) : (c.join d).fb g = (c.fb g).or (d.fb g) := Ck.fb_joinN _ c d S T U g (Nat.le_refl _) h1 h2 h3
theorem Ck.ht_pos (c : Ck) : 1 ≤ c.ht := by induction c <;> simp [Ck.ht] <;> omega
theorem Ck.ht_joinN : ∀ (m : Nat) (c d : Ck), c.dp + d.dp ≤ m → (c.join d).ht ≤ max c.ht d.ht
  | 0, c, d, hn => by have := c.dp_pos; omega
  | m + 1, .any, d, hn => by rw [Ck.join]; omega
  | m + 1, .fail k n s k', d, hn => by rw [Ck.join]; omega
  | m + 1, .take k n s c, d, hn => by
    rw [Ck.join]
    exact Ck.ht_joinN m c d (by simp only [Ck.dp] at hn; omega)
  | m + 1, .give c, d, hn => by
    have hp := c.ht_pos
    cases d with
    | take k' n s d =>
      rw [Ck.join]
      split
      · exact Ck.ht_joinN m c d (by simp only [Ck.dp] at hn; omega)
      · simp only [Ck.ht]; omega
    | _ => simp only [Ck.join, Ck.ht]; omega
  | m + 1, .same k, d, hn => by
    cases d <;> simp only [Ck.join, Ck.ht] <;> omega
  | m + 1, .fn a b, d, hn => by
    cases d with
    | fn c d =>
      have z1 := Ck.ht_joinN m c a (by simp only [Ck.dp] at hn; omega)
      have z2 := Ck.ht_joinN m b d (by simp only [Ck.dp] at hn; omega)
      simp only [Ck.join, Ck.ht]; omega
    | give c =>
      cases c with
      | fn c d =>
        have z1 := Ck.ht_joinN m c a (by simp only [Ck.dp] at hn; omega)
        have z2 := Ck.ht_joinN m b d (by simp only [Ck.dp] at hn; omega)
        simp only [Ck.join, Ck.ht]; omega
      | _ => simp only [Ck.join, Ck.ht]; omega
    | _ => simp only [Ck.join, Ck.ht]; omega
  | m + 1, .pair a b, d, hn => by
    cases d with
    | pair c d =>
      have z1 := Ck.ht_joinN m a c (by simp only [Ck.dp] at hn; omega)
      have z2 := Ck.ht_joinN m b d (by simp only [Ck.dp] at hn; omega)
      simp only [Ck.join, Ck.ht]; omega
    | give c =>
      cases c with
      | pair c d =>
        have z1 := Ck.ht_joinN m a c (by simp only [Ck.dp] at hn; omega)
        have z2 := Ck.ht_joinN m b d (by simp only [Ck.dp] at hn; omega)
        simp only [Ck.join, Ck.ht]; omega
      | _ => simp only [Ck.join, Ck.ht]; omega
    | _ => simp only [Ck.join, Ck.ht]; omega
  | m + 1, .box a b, d, hn => by
    cases d with
    | box c d =>
      have z1 := Ck.ht_joinN m c a (by simp only [Ck.dp] at hn; omega)
      have z2 := Ck.ht_joinN m b d (by simp only [Ck.dp] at hn; omega)
      simp only [Ck.join, Ck.ht]; omega
    | give c =>
      cases c with
      | box c d =>
        have z1 := Ck.ht_joinN m c a (by simp only [Ck.dp] at hn; omega)
        have z2 := Ck.ht_joinN m b d (by simp only [Ck.dp] at hn; omega)
        simp only [Ck.join, Ck.ht]; omega
      | _ => simp only [Ck.join, Ck.ht]; omega
    | _ => simp only [Ck.join, Ck.ht]; omega
theorem Ck.ht_join (c d : Ck) : (c.join d).ht ≤ max c.ht d.ht := Ck.ht_joinN _ c d (Nat.le_refl _)
/-- the check of a cast, number n -/
def Ck.of (n : Int) : Int → Ty → Ty → Ck
  | _, .any, .any => .any
  | _, .int, .any => .give (.same .int)
  | _, .bool, .any => .give (.same .bool)
  | _, .unit, .any => .give (.same .unit)
  | s, .fn a b, .any => .give (.fn (Ck.of n (1 - s) .any a) (Ck.of n s b .any))
  | s, .pair a b, .any => .give (.pair (Ck.of n s a .any) (Ck.of n s b .any))
  | s, .box a, .any => .give (.box (Ck.of n (1 - s) .any a) (Ck.of n s a .any))
  | s, .any, .int => .take .int n s (.same .int)
  | s, .any, .bool => .take .bool n s (.same .bool)
  | s, .any, .unit => .take .unit n s (.same .unit)
  | s, .any, .fn a b => .take .fn n s (.fn (Ck.of n (1 - s) a .any) (Ck.of n s .any b))
  | s, .any, .pair a b => .take .pair n s (.pair (Ck.of n s .any a) (Ck.of n s .any b))
  | s, .any, .box a => .take .box n s (.box (Ck.of n (1 - s) a .any) (Ck.of n s .any a))
  | s, .fn a b, .fn c d => .fn (Ck.of n (1 - s) c a) (Ck.of n s b d)
  | s, .pair a b, .pair c d => .pair (Ck.of n s a c) (Ck.of n s b d)
  | s, .box a, .box c => .box (Ck.of n (1 - s) c a) (Ck.of n s a c)
  | _, .int, .int => .same .int
  | _, .bool, .bool => .same .bool
  | _, .unit, .unit => .same .unit
  | _, _, _ => .any
termination_by _ a b => sizeOf a + sizeOf b
theorem Ck.of_okN (n : Int) : ∀ (m : Nat) (s : Int) (S T : Ty), S.h + T.h ≤ m → S.fits T = true → (Ck.of n s S T).ok S T
  | 0, s, S, T, hm, _ => by have := S.h_pos; omega
  | m + 1, s, S, T, hm, hf => by
    have fa : ∀ a : Ty, Ty.fits .any a = true := fun a => by cases a <;> rfl
    have fb : ∀ a : Ty, a.fits .any = true := fun a => by cases a <;> rfl
    have h1 : Ty.h .any = 1 := rfl
    cases S <;> cases T <;> first | exact nb hf | skip
    all_goals rw [Ck.of]
    · exact ⟨rfl, rfl⟩
    · exact ⟨rfl, rfl, rfl, .inl rfl⟩
    · exact ⟨rfl, rfl, rfl, .inr (.inl rfl)⟩
    · exact ⟨rfl, rfl, rfl, .inr (.inr rfl)⟩
    · exact ⟨rfl, _, _, _, _, rfl, rfl, Ck.of_okN n m _ _ _ (by simp only [Ty.h] at hm ⊢; omega) (fb _), Ck.of_okN n m _ _ _ (by simp only [Ty.h] at hm ⊢; omega) (fa _)⟩
    · exact ⟨rfl, _, _, _, _, rfl, rfl, Ck.of_okN n m _ _ _ (by simp only [Ty.h] at hm ⊢; omega) (fa _), Ck.of_okN n m _ _ _ (by simp only [Ty.h] at hm ⊢; omega) (fa _)⟩
    · exact ⟨rfl, _, _, rfl, rfl, Ck.of_okN n m _ _ _ (by simp only [Ty.h] at hm ⊢; omega) (fb _), Ck.of_okN n m _ _ _ (by simp only [Ty.h] at hm ⊢; omega) (fa _)⟩
    · exact ⟨rfl, .int, rfl, rfl, rfl, rfl, .inl rfl⟩
    · exact ⟨rfl, rfl, .inl rfl⟩
    · exact ⟨rfl, .bool, rfl, rfl, rfl, rfl, .inr (.inl rfl)⟩
    · exact ⟨rfl, rfl, .inr (.inl rfl)⟩
    · exact ⟨rfl, .unit, rfl, rfl, rfl, rfl, .inr (.inr rfl)⟩
    · exact ⟨rfl, rfl, .inr (.inr rfl)⟩
    · exact ⟨rfl, .fn, rfl, rfl, _, _, _, _, rfl, rfl, Ck.of_okN n m _ _ _ (by simp only [Ty.h] at hm ⊢; omega) (fa _), Ck.of_okN n m _ _ _ (by simp only [Ty.h] at hm ⊢; omega) (fb _)⟩
    · obtain ⟨k1, k2⟩ := and2 hf
      exact ⟨_, _, _, _, rfl, rfl, Ck.of_okN n m _ _ _ (by simp only [Ty.h] at hm ⊢; omega) (by rw [Ty.fits_comm]; exact k1), Ck.of_okN n m _ _ _ (by simp only [Ty.h] at hm ⊢; omega) k2⟩
    · exact ⟨rfl, .pair, rfl, rfl, _, _, _, _, rfl, rfl, Ck.of_okN n m _ _ _ (by simp only [Ty.h] at hm ⊢; omega) (fb _), Ck.of_okN n m _ _ _ (by simp only [Ty.h] at hm ⊢; omega) (fb _)⟩
    · obtain ⟨k1, k2⟩ := and2 hf
      exact ⟨_, _, _, _, rfl, rfl, Ck.of_okN n m _ _ _ (by simp only [Ty.h] at hm ⊢; omega) k1, Ck.of_okN n m _ _ _ (by simp only [Ty.h] at hm ⊢; omega) k2⟩
    · exact ⟨rfl, .box, rfl, rfl, _, _, rfl, rfl, Ck.of_okN n m _ _ _ (by simp only [Ty.h] at hm ⊢; omega) (fa _), Ck.of_okN n m _ _ _ (by simp only [Ty.h] at hm ⊢; omega) (fb _)⟩
    · exact ⟨_, _, rfl, rfl, Ck.of_okN n m _ _ _ (by simp only [Ty.h] at hm ⊢; omega) (by rw [Ty.fits_comm]; exact hf), Ck.of_okN n m _ _ _ (by simp only [Ty.h] at hm ⊢; omega) hf⟩
theorem Ck.of_ok {n s : Int} {S T : Ty} (h : S.fits T = true) : (Ck.of n s S T).ok S T := Ck.of_okN n _ s S T (Nat.le_refl _) h
theorem Ck.of_htN (n : Int) : ∀ (m : Nat) (s : Int) (S T : Ty), S.h + T.h ≤ m → S.fits T = true → (Ck.of n s S T).ht ≤ max S.h T.h
  | 0, s, S, T, hm, _ => by have := S.h_pos; omega
  | m + 1, s, S, T, hm, hf => by
    have fa : ∀ a : Ty, Ty.fits .any a = true := fun a => by cases a <;> rfl
    have fb : ∀ a : Ty, a.fits .any = true := fun a => by cases a <;> rfl
    have h1 : Ty.h .any = 1 := rfl
    have za : ∀ (s : Int) (a : Ty), a.h + 1 ≤ m → (Ck.of n s a .any).ht ≤ a.h := fun s a q => by
      have z := Ck.of_htN n m s a .any q (fb a)
      have := a.h_pos
      rw [h1] at z
      omega
    have zb : ∀ (s : Int) (a : Ty), a.h + 1 ≤ m → (Ck.of n s .any a).ht ≤ a.h := fun s a q => by
      have z := Ck.of_htN n m s .any a (by rw [h1]; omega) (fa a)
      have := a.h_pos
      rw [h1] at z
      omega
    cases S <;> cases T <;> first | exact nb hf | skip
    all_goals rw [Ck.of]
    all_goals simp only [Ck.ht, Ty.h]
    all_goals simp only [Ty.h] at hm
    all_goals first | omega | skip
    · rename_i a b
      have z1 := za (1 - s) a (by omega)
      have z2 := zb s b (by omega)
      omega
    · rename_i a b
      have z1 := zb s a (by omega)
      have z2 := zb s b (by omega)
      omega
    · rename_i a
      have z1 := za (1 - s) a (by omega)
      have z2 := zb s a (by omega)
      omega
    · rename_i a b
      have z1 := zb (1 - s) a (by omega)
      have z2 := za s b (by omega)
      omega
    · rename_i a b c d
      obtain ⟨k1, k2⟩ := and2 hf
      have z1 := Ck.of_htN n m (1 - s) c a (by omega) (by rw [Ty.fits_comm]; exact k1)
      have z2 := Ck.of_htN n m s b d (by omega) k2
      omega
    · rename_i a b
      have z1 := za s a (by omega)
      have z2 := za s b (by omega)
      omega
    · rename_i a b c d
      obtain ⟨k1, k2⟩ := and2 hf
      have z1 := Ck.of_htN n m s a c (by omega) k1
      have z2 := Ck.of_htN n m s b d (by omega) k2
      omega
    · rename_i a
      have z1 := zb (1 - s) a (by omega)
      have z2 := za s a (by omega)
      omega
    · rename_i a c
      have z1 := Ck.of_htN n m (1 - s) c a (by omega) (by rw [Ty.fits_comm]; exact hf)
      have z2 := Ck.of_htN n m s a c (by omega) hf
      omega
theorem Ck.of_ht {n s : Int} {S T : Ty} (h : S.fits T = true) : (Ck.of n s S T).ht ≤ max S.h T.h := Ck.of_htN n _ s S T (Nat.le_refl _) h
theorem Ck.of_fb {n s : Int} {S T : Ty} {g : Kd} (h : S ≠ .any) (hf : S.fits T = true) : (Ck.of n s S T).fb g = none := by
  cases S <;> first | exact absurd rfl h | skip
  all_goals cases T <;> first | exact nb hf | (rw [Ck.of]; rfl)
end HN

set_option maxHeartbeats 0
/-! Checks: joined in any order; the check of a type with itself; there and back. -/
namespace HN
open PySem L2
theorem any_inv {b : Ck} {U : Ty} (h : b.ok .any U) : (b = .any ∧ U = .any) ∨ ∃ k n s c, b = .take k n s c ∧ c.ok k.base U := by
  cases b with
  | any => exact .inl ⟨rfl, h.2⟩
  | same k => exact (base_ne h.1.symm).elim
  | fn a b => obtain ⟨_, _, _, _, e, _⟩ := h; cases e
  | pair a b => obtain ⟨_, _, _, _, e, _⟩ := h; cases e
  | box a b => obtain ⟨_, _, e, _⟩ := h; cases e
  | give c => obtain ⟨_, k, e, _⟩ := h; cases e
  | take k n s c => exact .inr ⟨k, n, s, c, rfl, h.2⟩
  | fail k n s k' => exact (any_kd h).elim
theorem fn_inv {b : Ck} {A B U : Ty} (h : b.ok (.fn A B) U) : (∃ b1 b2 C E, b = .fn b1 b2 ∧ U = .fn C E ∧ b1.ok C A ∧ b2.ok B E) ∨ (∃ b1 b2, b = .give (.fn b1 b2) ∧ U = .any ∧ b1.ok .any A ∧ b2.ok B .any) ∨ ∃ n s k', b = .fail .fn n s k' := by
  cases b with
  | any => cases h.1
  | same k => obtain ⟨e, _, hk⟩ := h; rcases hk with rfl | rfl | rfl <;> cases e
  | fn a b => obtain ⟨A2, B2, C, E, e, rfl, h1, h2⟩ := h; cases e; exact .inl ⟨_, _, _, _, rfl, rfl, h1, h2⟩
  | pair a b => obtain ⟨_, _, _, _, e, _⟩ := h; cases e
  | box a b => obtain ⟨_, _, e, _⟩ := h; cases e
  | give c =>
    obtain ⟨rfl, k, e, hp, hc⟩ := h
    cases e
    cases c <;> simp only [Ck.pg, reduceCtorEq, Option.some.injEq] at hp
    · subst hp; obtain ⟨_, _, hk⟩ := hc; rcases hk with h | h | h <;> cases h
    · obtain ⟨A2, B2, C, E, e, e', h1, h2⟩ := hc
      cases e
      cases e'
      exact .inr (.inl ⟨_, _, rfl, rfl, h1, h2⟩)
  | take k n s c => cases h.1
  | fail k n s k' => cases h; exact .inr (.inr ⟨_, _, _, rfl⟩)
theorem pair_inv {b : Ck} {A B U : Ty} (h : b.ok (.pair A B) U) : (∃ b1 b2 C E, b = .pair b1 b2 ∧ U = .pair C E ∧ b1.ok A C ∧ b2.ok B E) ∨ (∃ b1 b2, b = .give (.pair b1 b2) ∧ U = .any ∧ b1.ok A .any ∧ b2.ok B .any) ∨ ∃ n s k', b = .fail .pair n s k' := by
  cases b with
  | any => cases h.1
  | same k => obtain ⟨e, _, hk⟩ := h; rcases hk with rfl | rfl | rfl <;> cases e
  | pair a b => obtain ⟨A2, B2, C, E, e, rfl, h1, h2⟩ := h; cases e; exact .inl ⟨_, _, _, _, rfl, rfl, h1, h2⟩
  | fn a b => obtain ⟨_, _, _, _, e, _⟩ := h; cases e
  | box a b => obtain ⟨_, _, e, _⟩ := h; cases e
  | give c =>
    obtain ⟨rfl, k, e, hp, hc⟩ := h
    cases e
    cases c <;> simp only [Ck.pg, reduceCtorEq, Option.some.injEq] at hp
    · subst hp; obtain ⟨_, _, hk⟩ := hc; rcases hk with h | h | h <;> cases h
    · obtain ⟨A2, B2, C, E, e, e', h1, h2⟩ := hc
      cases e
      cases e'
      exact .inr (.inl ⟨_, _, rfl, rfl, h1, h2⟩)
  | take k n s c => cases h.1
  | fail k n s k' => cases h; exact .inr (.inr ⟨_, _, _, rfl⟩)
theorem box_inv {b : Ck} {A U : Ty} (h : b.ok (.box A) U) : (∃ b1 b2 C, b = .box b1 b2 ∧ U = .box C ∧ b1.ok C A ∧ b2.ok A C) ∨ (∃ b1 b2, b = .give (.box b1 b2) ∧ U = .any ∧ b1.ok .any A ∧ b2.ok A .any) ∨ ∃ n s k', b = .fail .box n s k' := by
  cases b with
  | any => cases h.1
  | same k => obtain ⟨e, _, hk⟩ := h; rcases hk with rfl | rfl | rfl <;> cases e
  | fn a b => obtain ⟨_, _, _, _, e, _⟩ := h; cases e
  | pair a b => obtain ⟨_, _, _, _, e, _⟩ := h; cases e
  | box a b => obtain ⟨A2, C, e, rfl, h1, h2⟩ := h; cases e; exact .inl ⟨_, _, _, rfl, rfl, h1, h2⟩
  | give c =>
    obtain ⟨rfl, k, e, hp, hc⟩ := h
    cases e
    cases c <;> simp only [Ck.pg, reduceCtorEq, Option.some.injEq] at hp
    · subst hp; obtain ⟨_, _, hk⟩ := hc; rcases hk with h | h | h <;> cases h
    · obtain ⟨A2, C, e, e', h1, h2⟩ := hc
      cases e
      cases e'
      exact .inr (.inl ⟨_, _, rfl, rfl, h1, h2⟩)
  | take k n s c => cases h.1
  | fail k n s k' => cases h; exact .inr (.inr ⟨_, _, _, rfl⟩)
theorem same_inv {b : Ck} {k : Kd} {U : Ty} (hk : k = .int ∨ k = .bool ∨ k = .unit) (h : b.ok k.base U) : (b = .same k ∧ U = k.base) ∨ (b = .give (.same k) ∧ U = .any) ∨ ∃ n s k', b = .fail k n s k' := by
  cases b with
  | any => exact (base_ne h.1).elim
  | same k' =>
    obtain ⟨e, rfl, hk'⟩ := h
    have : k = k' := by rcases hk with rfl | rfl | rfl <;> rcases hk' with rfl | rfl | rfl <;> first | rfl | cases e
    subst this
    exact .inl ⟨rfl, rfl⟩
  | fn a b => obtain ⟨_, _, _, _, e, _⟩ := h; rcases hk with rfl | rfl | rfl <;> cases e
  | pair a b => obtain ⟨_, _, _, _, e, _⟩ := h; rcases hk with rfl | rfl | rfl <;> cases e
  | box a b => obtain ⟨_, _, e, _⟩ := h; rcases hk with rfl | rfl | rfl <;> cases e
  | give c =>
    obtain ⟨rfl, k2, e, hp, hc⟩ := h
    rw [Kd.base_kd] at e
    cases e
    cases c with
    | same k2 => cases hp; exact .inr (.inl ⟨rfl, rfl⟩)
    | fn a b => cases hp; rcases hk with h | h | h <;> cases h
    | pair a b => cases hp; rcases hk with h | h | h <;> cases h
    | box a b => cases hp; rcases hk with h | h | h <;> cases h
    | _ => cases hp
  | take k2 n s c => exact (base_ne h.1).elim
  | fail k2 n s k' =>
    have h : k.base.kd = some k2 := h
    rw [Kd.base_kd] at h
    cases h
    exact .inr (.inr ⟨_, _, _, rfl⟩)
theorem Ck.assocN : ∀ (m : Nat) (a b c : Ck) (S T U V : Ty), a.dp + b.dp + c.dp ≤ m → a.ok S T → b.ok T U → c.ok U V → (a.join b).join c = a.join (b.join c)
  | 0, a, b, c, S, T, U, V, hn, _, _, _ => by have := a.dp_pos; omega
  | m + 1, .any, b, c, S, T, U, V, hn, h1, h2, h3 => by rw [Ck.join, Ck.join]
  | m + 1, .fail k n s k', b, c, S, T, U, V, hn, h1, h2, h3 => by rw [Ck.join, Ck.join, Ck.join]
  | m + 1, .take k n s a, b, c, S, T, U, V, hn, h1, h2, h3 => by
    rw [Ck.join, Ck.join, Ck.join, Ck.assocN m a b c _ _ _ _ (by simp only [Ck.dp] at hn; omega) h1.2 h2 h3]
  | m + 1, .give a, b, c, S, T, U, V, hn, h1, h2, h3 => by
    obtain ⟨rfl, k, e, hp, ha⟩ := h1
    rcases any_inv h2 with ⟨rfl, rfl⟩ | ⟨k', n, s, b', rfl, hb⟩
    · simp only [Ck.join]
    · by_cases z : k' = k
      · subst z
        have q : ∀ d, (Ck.give a).join (.take k' n s d) = a.join d := fun d => by rw [Ck.join, if_pos hp]
        rw [q, show (Ck.take k' n s b').join c = .take k' n s (b'.join c) by rw [Ck.join], q]
        exact Ck.assocN m a b' c _ _ _ _ (by simp only [Ck.dp] at hn; omega) ha hb h3
      · have q : ∀ d, (Ck.give a).join (.take k' n s d) = .fail (a.pg.getD .int) n s k' := fun d => by rw [Ck.join, if_neg (fun w => z (by rw [hp] at w; cases w; rfl))]
        rw [q, show (Ck.take k' n s b').join c = .take k' n s (b'.join c) by rw [Ck.join], q, Ck.join]
  | m + 1, .same k, b, c, S, T, U, V, hn, h1, h2, h3 => by
    obtain ⟨rfl, rfl, hk⟩ := h1
    rcases same_inv hk h2 with ⟨rfl, rfl⟩ | ⟨rfl, rfl⟩ | ⟨n, s, k', rfl⟩
    · rcases same_inv hk h3 with ⟨rfl, rfl⟩ | ⟨rfl, rfl⟩ | ⟨n, s, k', rfl⟩ <;> simp only [Ck.join]
    · rcases any_inv h3 with ⟨rfl, rfl⟩ | ⟨k', n, s, c', rfl, hc⟩
      · simp only [Ck.join]
      · by_cases z : k = k'
        · subst z
          rcases same_inv hk hc with ⟨rfl, rfl⟩ | ⟨rfl, rfl⟩ | ⟨n, s, k', rfl⟩ <;> simp [Ck.join, Ck.pg]
        · simp [Ck.join, Ck.pg, z]
    · simp only [Ck.join]
  | m + 1, .fn a1 a2, b, c, S, T, U, V, hn, h1, h2, h3 => by
    obtain ⟨A, B, C, E, rfl, rfl, ha1, ha2⟩ := h1
    rcases fn_inv h2 with ⟨b1, b2, C2, E2, rfl, rfl, hb1, hb2⟩ | ⟨b1, b2, rfl, rfl, hb1, hb2⟩ | ⟨n, s, k', rfl⟩
    · rcases fn_inv h3 with ⟨c1, c2, C3, E3, rfl, rfl, hc1, hc2⟩ | ⟨c1, c2, rfl, rfl, hc1, hc2⟩ | ⟨n, s, k', rfl⟩
      · simp only [Ck.join]
        rw [Ck.assocN m c1 b1 a1 _ _ _ _ (by simp only [Ck.dp] at hn; omega) hc1 hb1 ha1, Ck.assocN m a2 b2 c2 _ _ _ _ (by simp only [Ck.dp] at hn; omega) ha2 hb2 hc2]
      · simp only [Ck.join]
        rw [Ck.assocN m c1 b1 a1 _ _ _ _ (by simp only [Ck.dp] at hn; omega) hc1 hb1 ha1, Ck.assocN m a2 b2 c2 _ _ _ _ (by simp only [Ck.dp] at hn; omega) ha2 hb2 hc2]
      · simp only [Ck.join]
    · rcases any_inv h3 with ⟨rfl, rfl⟩ | ⟨k', n, s, c', rfl, hc⟩
      · simp only [Ck.join]
      · by_cases z : Kd.fn = k'
        · subst z
          have hn' : c'.dp ≤ m := by simp only [Ck.dp] at hn; omega
          rcases fn_inv hc with ⟨c1, c2, C3, E3, rfl, rfl, hc1, hc2⟩ | ⟨c1, c2, rfl, rfl, hc1, hc2⟩ | ⟨n, s, k', rfl⟩
          · simp [Ck.join, Ck.pg]
            exact ⟨Ck.assocN m c1 b1 a1 _ _ _ _ (by simp only [Ck.dp] at hn; omega) hc1 hb1 ha1 |>.symm ▸ rfl, Ck.assocN m a2 b2 c2 _ _ _ _ (by simp only [Ck.dp] at hn; omega) ha2 hb2 hc2⟩
          · simp [Ck.join, Ck.pg]
            exact ⟨Ck.assocN m c1 b1 a1 _ _ _ _ (by simp only [Ck.dp] at hn; omega) hc1 hb1 ha1 |>.symm ▸ rfl, Ck.assocN m a2 b2 c2 _ _ _ _ (by simp only [Ck.dp] at hn; omega) ha2 hb2 hc2⟩
          · simp [Ck.join, Ck.pg]
        · simp [Ck.join, Ck.pg, z]
    · simp only [Ck.join]
  | m + 1, .pair a1 a2, b, c, S, T, U, V, hn, h1, h2, h3 => by
    obtain ⟨A, B, C, E, rfl, rfl, ha1, ha2⟩ := h1
    rcases pair_inv h2 with ⟨b1, b2, C2, E2, rfl, rfl, hb1, hb2⟩ | ⟨b1, b2, rfl, rfl, hb1, hb2⟩ | ⟨n, s, k', rfl⟩
    · rcases pair_inv h3 with ⟨c1, c2, C3, E3, rfl, rfl, hc1, hc2⟩ | ⟨c1, c2, rfl, rfl, hc1, hc2⟩ | ⟨n, s, k', rfl⟩
      · simp only [Ck.join]
        rw [Ck.assocN m a1 b1 c1 _ _ _ _ (by simp only [Ck.dp] at hn; omega) ha1 hb1 hc1, Ck.assocN m a2 b2 c2 _ _ _ _ (by simp only [Ck.dp] at hn; omega) ha2 hb2 hc2]
      · simp only [Ck.join]
        rw [Ck.assocN m a1 b1 c1 _ _ _ _ (by simp only [Ck.dp] at hn; omega) ha1 hb1 hc1, Ck.assocN m a2 b2 c2 _ _ _ _ (by simp only [Ck.dp] at hn; omega) ha2 hb2 hc2]
      · simp only [Ck.join]
    · rcases any_inv h3 with ⟨rfl, rfl⟩ | ⟨k', n, s, c', rfl, hc⟩
      · simp only [Ck.join]
      · by_cases z : Kd.pair = k'
        · subst z
          rcases pair_inv hc with ⟨c1, c2, C3, E3, rfl, rfl, hc1, hc2⟩ | ⟨c1, c2, rfl, rfl, hc1, hc2⟩ | ⟨n, s, k', rfl⟩
          · simp [Ck.join, Ck.pg]
            exact ⟨Ck.assocN m a1 b1 c1 _ _ _ _ (by simp only [Ck.dp] at hn; omega) ha1 hb1 hc1, Ck.assocN m a2 b2 c2 _ _ _ _ (by simp only [Ck.dp] at hn; omega) ha2 hb2 hc2⟩
          · simp [Ck.join, Ck.pg]
            exact ⟨Ck.assocN m a1 b1 c1 _ _ _ _ (by simp only [Ck.dp] at hn; omega) ha1 hb1 hc1, Ck.assocN m a2 b2 c2 _ _ _ _ (by simp only [Ck.dp] at hn; omega) ha2 hb2 hc2⟩
          · simp [Ck.join, Ck.pg]
        · simp [Ck.join, Ck.pg, z]
    · simp only [Ck.join]
  | m + 1, .box a1 a2, b, c, S, T, U, V, hn, h1, h2, h3 => by
    obtain ⟨A, C, rfl, rfl, ha1, ha2⟩ := h1
    rcases box_inv h2 with ⟨b1, b2, C2, rfl, rfl, hb1, hb2⟩ | ⟨b1, b2, rfl, rfl, hb1, hb2⟩ | ⟨n, s, k', rfl⟩
    · rcases box_inv h3 with ⟨c1, c2, C3, rfl, rfl, hc1, hc2⟩ | ⟨c1, c2, rfl, rfl, hc1, hc2⟩ | ⟨n, s, k', rfl⟩
      · simp only [Ck.join]
        rw [Ck.assocN m c1 b1 a1 _ _ _ _ (by simp only [Ck.dp] at hn; omega) hc1 hb1 ha1, Ck.assocN m a2 b2 c2 _ _ _ _ (by simp only [Ck.dp] at hn; omega) ha2 hb2 hc2]
      · simp only [Ck.join]
        rw [Ck.assocN m c1 b1 a1 _ _ _ _ (by simp only [Ck.dp] at hn; omega) hc1 hb1 ha1, Ck.assocN m a2 b2 c2 _ _ _ _ (by simp only [Ck.dp] at hn; omega) ha2 hb2 hc2]
      · simp only [Ck.join]
    · rcases any_inv h3 with ⟨rfl, rfl⟩ | ⟨k', n, s, c', rfl, hc⟩
      · simp only [Ck.join]
      · by_cases z : Kd.box = k'
        · subst z
          rcases box_inv hc with ⟨c1, c2, C3, rfl, rfl, hc1, hc2⟩ | ⟨c1, c2, rfl, rfl, hc1, hc2⟩ | ⟨n, s, k', rfl⟩
          · simp [Ck.join, Ck.pg]
            exact ⟨Ck.assocN m c1 b1 a1 _ _ _ _ (by simp only [Ck.dp] at hn; omega) hc1 hb1 ha1 |>.symm ▸ rfl, Ck.assocN m a2 b2 c2 _ _ _ _ (by simp only [Ck.dp] at hn; omega) ha2 hb2 hc2⟩
          · simp [Ck.join, Ck.pg]
            exact ⟨Ck.assocN m c1 b1 a1 _ _ _ _ (by simp only [Ck.dp] at hn; omega) hc1 hb1 ha1 |>.symm ▸ rfl, Ck.assocN m a2 b2 c2 _ _ _ _ (by simp only [Ck.dp] at hn; omega) ha2 hb2 hc2⟩
          · simp [Ck.join, Ck.pg]
        · simp [Ck.join, Ck.pg, z]
    · simp only [Ck.join]
theorem Ck.assoc {a b c : Ck} {S T U V : Ty} (h1 : a.ok S T) (h2 : b.ok T U) (h3 : c.ok U V) : (a.join b).join c = a.join (b.join c) := Ck.assocN _ a b c S T U V (Nat.le_refl _) h1 h2 h3
end HN

set_option maxHeartbeats 0
/-! Checks: the check of a type with itself; there and back; the labels. -/
namespace HN
open PySem L2
/-- the labels, from the head -/
def Ck.labs : Ck → List (Int × Int)
  | .any => []
  | .same _ => []
  | .fn a b => a.labs ++ b.labs
  | .pair a b => a.labs ++ b.labs
  | .box a b => a.labs ++ b.labs
  | .give c => c.labs
  | .take _ n s c => (n, s) :: c.labs
  | .fail _ n s _ => [(n, s)]
theorem Ck.of_base (n s : Int) {k : Kd} (hk : k = .int ∨ k = .bool ∨ k = .unit) : Ck.of n s k.base k.base = .same k := by
  rcases hk with rfl | rfl | rfl
  · show Ck.of n s .int .int = _; rw [Ck.of]
  · show Ck.of n s .bool .bool = _; rw [Ck.of]
  · show Ck.of n s .unit .unit = _; rw [Ck.of]
theorem Ck.idN (n : Int) : ∀ (m : Nat) (s : Int) (c : Ck) (T U : Ty), c.dp ≤ m → (c.ok T U → (Ck.of n s T T).join c = c) ∧ (c.ok U T → c.join (Ck.of n s T T) = c)
  | 0, s, c, T, U, hn => by have := c.dp_pos; omega
  | m + 1, s, c, T, U, hn => by
    refine ⟨fun h => ?_, fun h => ?_⟩
    · have simple : ∀ k : Kd, (k = .int ∨ k = .bool ∨ k = .unit) → T = k.base → (Ck.of n s T T).join c = c := fun k hk e => by
        subst e
        rw [Ck.of_base n s hk]
        rcases same_inv hk h with ⟨rfl, rfl⟩ | ⟨rfl, rfl⟩ | ⟨n, s, k', rfl⟩ <;> simp only [Ck.join]
      cases T with
      | any => rw [Ck.of, Ck.join]
      | int => exact simple .int (.inl rfl) rfl
      | bool => exact simple .bool (.inr (.inl rfl)) rfl
      | unit => exact simple .unit (.inr (.inr rfl)) rfl
      | fn A B =>
        rw [Ck.of]
        rcases fn_inv h with ⟨b1, b2, C2, E2, rfl, rfl, hb1, hb2⟩ | ⟨b1, b2, rfl, rfl, hb1, hb2⟩ | ⟨n, s, k', rfl⟩
        · simp only [Ck.dp] at hn
          rw [Ck.join, (Ck.idN n m (1 - s) b1 A _ (by omega)).2 hb1, (Ck.idN n m s b2 B _ (by omega)).1 hb2]
        · simp only [Ck.dp] at hn
          rw [Ck.join, (Ck.idN n m (1 - s) b1 A _ (by omega)).2 hb1, (Ck.idN n m s b2 B _ (by omega)).1 hb2]
        · simp only [Ck.join]
      | pair A B =>
        rw [Ck.of]
        rcases pair_inv h with ⟨b1, b2, C2, E2, rfl, rfl, hb1, hb2⟩ | ⟨b1, b2, rfl, rfl, hb1, hb2⟩ | ⟨n, s, k', rfl⟩
        · simp only [Ck.dp] at hn
          rw [Ck.join, (Ck.idN n m s b1 A _ (by omega)).1 hb1, (Ck.idN n m s b2 B _ (by omega)).1 hb2]
        · simp only [Ck.dp] at hn
          rw [Ck.join, (Ck.idN n m s b1 A _ (by omega)).1 hb1, (Ck.idN n m s b2 B _ (by omega)).1 hb2]
        · simp only [Ck.join]
      | box A =>
        rw [Ck.of]
        rcases box_inv h with ⟨b1, b2, C2, rfl, rfl, hb1, hb2⟩ | ⟨b1, b2, rfl, rfl, hb1, hb2⟩ | ⟨n, s, k', rfl⟩
        · simp only [Ck.dp] at hn
          rw [Ck.join, (Ck.idN n m (1 - s) b1 A _ (by omega)).2 hb1, (Ck.idN n m s b2 A _ (by omega)).1 hb2]
        · simp only [Ck.dp] at hn
          rw [Ck.join, (Ck.idN n m (1 - s) b1 A _ (by omega)).2 hb1, (Ck.idN n m s b2 A _ (by omega)).1 hb2]
        · simp only [Ck.join]
    · cases c with
      | any => obtain ⟨_, rfl⟩ := h; rw [Ck.of, Ck.join]
      | same k =>
        obtain ⟨_, rfl, hk⟩ := h
        rw [Ck.of_base n s hk]
        simp only [Ck.join]
      | fn a b =>
        obtain ⟨A, B, C, E, rfl, rfl, h1, h2⟩ := h
        simp only [Ck.dp] at hn
        rw [Ck.of, Ck.join, (Ck.idN n m (1 - s) a C _ (by omega)).1 h1, (Ck.idN n m s b E _ (by omega)).2 h2]
      | pair a b =>
        obtain ⟨A, B, C, E, rfl, rfl, h1, h2⟩ := h
        simp only [Ck.dp] at hn
        rw [Ck.of, Ck.join, (Ck.idN n m s a C _ (by omega)).2 h1, (Ck.idN n m s b E _ (by omega)).2 h2]
      | box a b =>
        obtain ⟨A, C, rfl, rfl, h1, h2⟩ := h
        simp only [Ck.dp] at hn
        rw [Ck.of, Ck.join, (Ck.idN n m (1 - s) a C _ (by omega)).1 h1, (Ck.idN n m s b C _ (by omega)).2 h2]
      | give c => obtain ⟨rfl, _⟩ := h; rw [Ck.of]; simp only [Ck.join]
      | take k n' s' c =>
        simp only [Ck.dp] at hn
        rw [Ck.join, (Ck.idN n m s c T k.base (by omega)).2 h.2]
      | fail k n' s' k' => rw [Ck.join]
theorem Ck.idL {n s : Int} {c : Ck} {T U : Ty} (h : c.ok T U) : (Ck.of n s T T).join c = c := (Ck.idN n _ s c T U (Nat.le_refl _)).1 h
theorem Ck.idR {n s : Int} {c : Ck} {T U : Ty} (h : c.ok U T) : c.join (Ck.of n s T T) = c := (Ck.idN n _ s c T U (Nat.le_refl _)).2 h
theorem Ck.self_labs (n : Int) : ∀ (T : Ty) (s : Int), (Ck.of n s T T).labs = []
  | .any, s => by rw [Ck.of]; rfl
  | .int, s => by rw [Ck.of]; rfl
  | .bool, s => by rw [Ck.of]; rfl
  | .unit, s => by rw [Ck.of]; rfl
  | .fn A B, s => by rw [Ck.of]; simp [Ck.labs, Ck.self_labs n A, Ck.self_labs n B]
  | .pair A B, s => by rw [Ck.of]; simp [Ck.labs, Ck.self_labs n A, Ck.self_labs n B]
  | .box A, s => by rw [Ck.of]; simp [Ck.labs, Ck.self_labs n A]
theorem Ck.round_labs (n m : Int) : ∀ (T : Ty) (s r : Int), ((Ck.of n s T .any).join (Ck.of m r .any T)).labs = []
  | .any, s, r => by rw [Ck.of, Ck.of, Ck.join]; rfl
  | .int, s, r => by rw [Ck.of, Ck.of]; simp [Ck.join, Ck.pg, Ck.labs]
  | .bool, s, r => by rw [Ck.of, Ck.of]; simp [Ck.join, Ck.pg, Ck.labs]
  | .unit, s, r => by rw [Ck.of, Ck.of]; simp [Ck.join, Ck.pg, Ck.labs]
  | .fn A B, s, r => by
    rw [Ck.of, Ck.of]
    simp [Ck.join, Ck.pg, Ck.labs, Ck.round_labs m n A, Ck.round_labs n m B]
  | .pair A B, s, r => by
    rw [Ck.of, Ck.of]
    simp [Ck.join, Ck.pg, Ck.labs, Ck.round_labs n m A, Ck.round_labs n m B]
  | .box A, s, r => by
    rw [Ck.of, Ck.of]
    simp [Ck.join, Ck.pg, Ck.labs, Ck.round_labs m n A, Ck.round_labs n m A]
/-- there and back: a plain check of the type's ground -/
theorem Ck.round_pg {n m s r : Int} {T : Ty} {k : Kd} (h : T.kd = some k) : ((Ck.of n s T .any).join (Ck.of m r .any T)).pg = some k := by
  cases T <;> cases h <;> rw [Ck.of, Ck.of] <;> simp [Ck.join, Ck.pg]
/-- there, and to a ground -/
theorem Ck.there {n m s r : Int} {T : Ty} {k g : Kd} (h : T.kd = some k) : (k = g → ((Ck.of n s T .any).join (Ck.of m r .any g.base)).pg = some g) ∧ (k ≠ g → (Ck.of n s T .any).join (Ck.of m r .any g.base) = .fail k m r g) := by
  refine ⟨fun e => ?_, fun e => ?_⟩
  · subst e
    cases T <;> cases h <;> simp only [Kd.base] <;> rw [Ck.of, Ck.of] <;> simp [Ck.join, Ck.pg]
  · cases T <;> cases h <;> cases g <;> first | exact absurd rfl e | (simp only [Kd.base]; rw [Ck.of, Ck.of]; simp [Ck.join, Ck.pg])
end HN

set_option maxHeartbeats 0
/-! Checks: what the defs on checks compute. -/
namespace HN
open PySem L2
/-- check_of -/
def b23 : Ss := (.cons (.ite (.and (.cons (.cmp .eq (.var 0) (.glob 0)) (.cons (.cmp .eq (.var 1) (.glob 0)) .nil))) (.cons (.ret (.glob 0)) .nil) .nil) (.cons (.ite (.cmp .eq (.var 1) (.glob 0)) (.cons (.set 4 (.call 13 (.cons (.call 12 (.cons (.var 0) .nil)) .nil))) (.cons (.ret (.tup (.cons (.str "give") (.cons (.callK 23 (.cons (.var 0) (.cons (.var 4) .nil)) (.cons (.var 2) (.cons (.var 3) .nil))) .nil)))) .nil)) .nil) (.cons (.ite (.cmp .eq (.var 0) (.glob 0)) (.cons (.set 5 (.call 12 (.cons (.var 1) .nil))) (.cons (.ret (.tup (.cons (.str "take") (.cons (.var 5) (.cons (.tup (.cons (.var 2) (.cons (.var 3) .nil))) (.cons (.callK 23 (.cons (.call 13 (.cons (.var 5) .nil)) (.cons (.var 1) .nil)) (.cons (.var 2) (.cons (.var 3) .nil))) .nil)))))) .nil)) .nil) (.cons (.ite (.cmp .isIn (.idx (.var 0) (.int 0)) (.glob 1)) (.cons (.ret (.tup (.cons (.str "same") (.cons (.idx (.var 0) (.int 0)) .nil)))) .nil) .nil) (.cons (.ret (.call 24 (.cons (.var 0) (.cons (.var 1) (.cons (.var 2) (.cons (.var 3) .nil)))))) .nil)))))
abbrev fd23 : FD := ⟨4, 6, b23⟩
/-- compound_check -/
def b24 : Ss := (.cons (.set 4 (.idx (.var 0) (.int 0))) (.cons (.ite (.cmp .eq (.var 4) (.str "pair")) (.cons (.set 7 (.callK 23 (.cons (.idx (.var 0) (.int 1)) (.cons (.idx (.var 1) (.int 1)) .nil)) (.cons (.var 2) (.cons (.var 3) .nil)))) .nil) (.cons (.set 7 (.callK 23 (.cons (.idx (.var 1) (.int 1)) (.cons (.idx (.var 0) (.int 1)) .nil)) (.cons (.var 2) (.cons (.bin .sub (.int 1) (.var 3)) .nil)))) .nil)) (.cons (.set 5 (.bin .sub (.bi .len (.cons (.var 0) .nil)) (.int 1))) (.cons (.set 6 (.callK 23 (.cons (.idx (.var 0) (.var 5)) (.cons (.idx (.var 1) (.var 5)) .nil)) (.cons (.var 2) (.cons (.var 3) .nil)))) (.cons (.ret (.tup (.cons (.var 4) (.cons (.var 7) (.cons (.var 6) .nil))))) .nil)))))
abbrev fd24 : FD := ⟨4, 8, b24⟩
/-- plain_ground -/
def b26 : Ss := (.cons (.ite (.cmp .eq (.idx (.var 0) (.int 0)) (.str "same")) (.cons (.ret (.idx (.var 0) (.int 1))) .nil) .nil) (.cons (.ret (.idx (.var 0) (.int 0))) .nil))
abbrev fd26 : FD := ⟨1, 1, b26⟩
/-- join -/
def b25 : Ss := (.cons (.ite (.cmp .eq (.var 0) (.glob 0)) (.cons (.ret (.var 1)) .nil) .nil) (.cons (.ite (.cmp .eq (.idx (.var 0) (.int 0)) (.str "fail")) (.cons (.ret (.var 0)) .nil) .nil) (.cons (.ite (.cmp .eq (.idx (.var 0) (.int 0)) (.str "take")) (.cons (.ret (.tup (.cons (.str "take") (.cons (.idx (.var 0) (.int 1)) (.cons (.idx (.var 0) (.int 2)) (.cons (.call 25 (.cons (.idx (.var 0) (.int 3)) (.cons (.var 1) .nil))) .nil)))))) .nil) .nil) (.cons (.ite (.cmp .eq (.idx (.var 0) (.int 0)) (.str "give")) (.cons (.ret (.call 27 (.cons (.var 0) (.cons (.var 1) .nil)))) .nil) .nil) (.cons (.ite (.cmp .eq (.idx (.var 1) (.int 0)) (.str "fail")) (.cons (.ret (.var 1)) .nil) .nil) (.cons (.ite (.cmp .eq (.idx (.var 1) (.int 0)) (.str "give")) (.cons (.ret (.tup (.cons (.str "give") (.cons (.call 28 (.cons (.var 0) (.cons (.idx (.var 1) (.int 1)) .nil))) .nil)))) .nil) .nil) (.cons (.ret (.call 28 (.cons (.var 0) (.cons (.var 1) .nil)))) .nil)))))))
abbrev fd25 : FD := ⟨2, 2, b25⟩
/-- join_plain -/
def b28 : Ss := (.cons (.ite (.cmp .eq (.idx (.var 0) (.int 0)) (.str "same")) (.cons (.ret (.var 0)) .nil) .nil) (.cons (.ite (.cmp .eq (.idx (.var 0) (.int 0)) (.str "pair")) (.cons (.ret (.tup (.cons (.str "pair") (.cons (.call 25 (.cons (.idx (.var 0) (.int 1)) (.cons (.idx (.var 1) (.int 1)) .nil))) (.cons (.call 25 (.cons (.idx (.var 0) (.int 2)) (.cons (.idx (.var 1) (.int 2)) .nil))) .nil))))) .nil) .nil) (.cons (.ret (.tup (.cons (.idx (.var 0) (.int 0)) (.cons (.call 25 (.cons (.idx (.var 1) (.int 1)) (.cons (.idx (.var 0) (.int 1)) .nil))) (.cons (.call 25 (.cons (.idx (.var 0) (.int 2)) (.cons (.idx (.var 1) (.int 2)) .nil))) .nil))))) .nil)))
abbrev fd28 : FD := ⟨2, 2, b28⟩
/-- join_give -/
def b27 : Ss := (.cons (.ite (.cmp .eq (.var 1) (.glob 0)) (.cons (.ret (.var 0)) .nil) .nil) (.cons (.set 2 (.idx (.var 0) (.int 1))) (.cons (.ite (.cmp .eq (.idx (.var 1) (.int 1)) (.call 26 (.cons (.var 2) .nil))) (.cons (.ret (.call 25 (.cons (.var 2) (.cons (.idx (.var 1) (.int 3)) .nil)))) .nil) .nil) (.cons (.ret (.tup (.cons (.str "fail") (.cons (.call 26 (.cons (.var 2) .nil)) (.cons (.idx (.var 1) (.int 2)) (.cons (.idx (.var 1) (.int 1)) .nil)))))) .nil))))
abbrev fd27 : FD := ⟨2, 3, b27⟩
/-- first_blame -/
def b32 : Ss := (.cons (.while (.cmp .eq (.idx (.var 0) (.int 0)) (.str "take")) (.cons (.ite (.cmp .ne (.idx (.var 0) (.int 1)) (.var 1)) (.cons (.ret (.idx (.var 0) (.int 2))) .nil) .nil) (.cons (.set 0 (.idx (.var 0) (.int 3))) .nil))) (.cons (.ite (.cmp .eq (.idx (.var 0) (.int 0)) (.str "fail")) (.cons (.ret (.idx (.var 0) (.int 2))) .nil) .nil) (.cons (.ret .non) .nil)))
abbrev fd32 : FD := ⟨2, 2, b32⟩

theorem Ck.data (c : Ck) : D.data c.d = true := by
  induction c <;> simp_all [Ck.d, D.data, D.dataL]
section
variable {P : Prg} {defs : Nat → Option FD}
theorem pground_run (h : defs 26 = some fd26) {c : Ck} {k : Kd} (hp : c.pg = some k) {n : Nat} (S : Store) : callF P defs (n + 1) 26 [c.d] S = some (.str k.s, S) := by
  rw [callF_on h]
  cases c <;> simp [Ck.pg] at hp
  all_goals subst hp
  all_goals simp [runD, exSs, exS, evE, evT, evEs, evL, evI, evIfs, evAnd, evOr, evAndT, evOrT, startD, getV, putV, getO, putVs, putT, wipeE, idxD, sliceD, isAbs, partD, biD, one1, lenD, intD, absD, tupleD, listS, max2D, maxD, maxI, intsD, isTD, tyD, isT, binD, cmpD, isD, n_non, n_tup, n_lst, n_int, n_str, n_bl, truD, lstAt, itemsD, forD, compD, turnF, turnC, kept_none, szOk, rg_nat, rangeL, at0, at1, at2, at3, at4, at5, at6, ix0, ix1, gc_same, gc_len, eq_int, eq_str, eq_bl, str_inj, str_beq, cut1, cut2, lr0, lr1, lr2, lr3, lr4, lr5, lr6, lr7, b26, Ck.d, Kd.s]
theorem Ck.join_same {d : Ck} {k k' : Kd} (h : d.pg = some k) : (Ck.same k').join d = .same k' := by
  cases d <;> first | (cases h; done) | simp only [Ck.join]
/-- join answers at this number of calls, for checks up to this depth -/
def JoinAt (P : Prg) (defs : Nat → Option FD) (j m : Nat) : Prop := ∀ (c d : Ck) (S T U : Ty) (st : Store), c.dp + d.dp ≤ m → c.ok S T → d.ok T U → callF P defs j 25 [c.d, d.d] st = some ((c.join d).d, st)
theorem jp_run (h : defs 28 = some fd28) {j m : Nat} (ih : JoinAt P defs j m) {c d : Ck} {S T U : Ty} {k : Kd} (st : Store) (hm : c.dp + d.dp ≤ m + 2) (h1 : c.ok S T) (h2 : d.ok T U) (hp : c.pg = some k) (hd : d.pg = some k) :
    callF P defs (j + 1) 28 [c.d, d.d] st = some ((c.join d).d, st) := by
  rw [callF_on h]
  cases c <;> simp only [Ck.pg, reduceCtorEq, Option.some.injEq] at hp
  · subst hp
    rw [Ck.join_same hd]
    simp [runD, exSs, exS, evE, evT, evEs, evL, evI, evIfs, evAnd, evOr, evAndT, evOrT, startD, getV, putV, getO, putVs, putT, wipeE, idxD, sliceD, isAbs, partD, biD, one1, lenD, intD, absD, tupleD, listS, max2D, maxD, maxI, intsD, isTD, tyD, isT, binD, cmpD, isD, n_non, n_tup, n_lst, n_int, n_str, n_bl, truD, lstAt, itemsD, forD, compD, turnF, turnC, kept_none, szOk, rg_nat, rangeL, at0, at1, at2, at3, at4, at5, at6, ix0, ix1, gc_same, gc_len, eq_int, eq_str, eq_bl, str_inj, str_beq, cut1, cut2, lr0, lr1, lr2, lr3, lr4, lr5, lr6, lr7, b28, Ck.d]
  · subst hp
    rename_i a b
    obtain ⟨A, B, C, E, rfl, rfl, ha, hb⟩ := h1
    cases d <;> simp only [Ck.pg, reduceCtorEq, Option.some.injEq] at hd
    · subst hd; obtain ⟨_, _, hk⟩ := h2; rcases hk with h | h | h <;> cases h
    rename_i c d
    obtain ⟨A2, B2, C2, E2, e, rfl, hc, hd'⟩ := h2
    cases e
    simp only [Ck.dp] at hm
    have e1 := fun st => ih c a _ _ _ st (by omega) hc ha
    have e2 := fun st => ih b d _ _ _ st (by omega) hb hd'
    rw [Ck.join]
    simp [runD, exSs, exS, evE, evT, evEs, evL, evI, evIfs, evAnd, evOr, evAndT, evOrT, startD, getV, putV, getO, putVs, putT, wipeE, idxD, sliceD, isAbs, partD, biD, one1, lenD, intD, absD, tupleD, listS, max2D, maxD, maxI, intsD, isTD, tyD, isT, binD, cmpD, isD, n_non, n_tup, n_lst, n_int, n_str, n_bl, truD, lstAt, itemsD, forD, compD, turnF, turnC, kept_none, szOk, rg_nat, rangeL, at0, at1, at2, at3, at4, at5, at6, ix0, ix1, gc_same, gc_len, eq_int, eq_str, eq_bl, str_inj, str_beq, cut1, cut2, lr0, lr1, lr2, lr3, lr4, lr5, lr6, lr7, b28, Ck.d, e1, e2]
  · subst hp
    rename_i a b
    obtain ⟨A, B, C, E, rfl, rfl, ha, hb⟩ := h1
    cases d <;> simp only [Ck.pg, reduceCtorEq, Option.some.injEq] at hd
    · subst hd; obtain ⟨_, _, hk⟩ := h2; rcases hk with h | h | h <;> cases h
    rename_i c d
    obtain ⟨A2, B2, C2, E2, e, rfl, hc, hd'⟩ := h2
    cases e
    simp only [Ck.dp] at hm
    have e1 := fun st => ih a c _ _ _ st (by omega) ha hc
    have e2 := fun st => ih b d _ _ _ st (by omega) hb hd'
    rw [Ck.join]
    simp [runD, exSs, exS, evE, evT, evEs, evL, evI, evIfs, evAnd, evOr, evAndT, evOrT, startD, getV, putV, getO, putVs, putT, wipeE, idxD, sliceD, isAbs, partD, biD, one1, lenD, intD, absD, tupleD, listS, max2D, maxD, maxI, intsD, isTD, tyD, isT, binD, cmpD, isD, n_non, n_tup, n_lst, n_int, n_str, n_bl, truD, lstAt, itemsD, forD, compD, turnF, turnC, kept_none, szOk, rg_nat, rangeL, at0, at1, at2, at3, at4, at5, at6, ix0, ix1, gc_same, gc_len, eq_int, eq_str, eq_bl, str_inj, str_beq, cut1, cut2, lr0, lr1, lr2, lr3, lr4, lr5, lr6, lr7, b28, Ck.d, e1, e2]
  · subst hp
    rename_i a b
    obtain ⟨A, C, rfl, rfl, ha, hb⟩ := h1
    cases d <;> simp only [Ck.pg, reduceCtorEq, Option.some.injEq] at hd
    · subst hd; obtain ⟨_, _, hk⟩ := h2; rcases hk with h | h | h <;> cases h
    rename_i c d
    obtain ⟨A2, C2, e, rfl, hc, hd'⟩ := h2
    cases e
    simp only [Ck.dp] at hm
    have e1 := fun st => ih c a _ _ _ st (by omega) hc ha
    have e2 := fun st => ih b d _ _ _ st (by omega) hb hd'
    rw [Ck.join]
    simp [runD, exSs, exS, evE, evT, evEs, evL, evI, evIfs, evAnd, evOr, evAndT, evOrT, startD, getV, putV, getO, putVs, putT, wipeE, idxD, sliceD, isAbs, partD, biD, one1, lenD, intD, absD, tupleD, listS, max2D, maxD, maxI, intsD, isTD, tyD, isT, binD, cmpD, isD, n_non, n_tup, n_lst, n_int, n_str, n_bl, truD, lstAt, itemsD, forD, compD, turnF, turnC, kept_none, szOk, rg_nat, rangeL, at0, at1, at2, at3, at4, at5, at6, ix0, ix1, gc_same, gc_len, eq_int, eq_str, eq_bl, str_inj, str_beq, cut1, cut2, lr0, lr1, lr2, lr3, lr4, lr5, lr6, lr7, b28, Ck.d, e1, e2]
theorem Ck.join_give {c d : Ck} {S T U : Ty} {k : Kd} (h1 : c.ok S T) (h2 : d.ok T U) (hp : c.pg = some k) (hd : d.pg = some k) : c.join (.give d) = .give (c.join d) := by
  cases c <;> simp only [Ck.pg, reduceCtorEq, Option.some.injEq] at hp
  · rw [Ck.join_same hd]
    simp only [Ck.join]
  all_goals subst hp
  all_goals cases d <;> simp only [Ck.pg, reduceCtorEq, Option.some.injEq] at hd
  all_goals first | (subst hd; obtain ⟨_, _, hk⟩ := h2; rcases hk with h | h | h <;> cases h) | simp only [Ck.join]
theorem join_run (hg : P.glob 0 = some (.tup [.str "any"])) (h25 : defs 25 = some fd25) (h26 : defs 26 = some fd26) (h27 : defs 27 = some fd27) (h28 : defs 28 = some fd28) : ∀ (m : Nat) {n : Nat}, 2 * m ≤ n → JoinAt P defs n m
  | 0, n, hn => fun c d S T U st hm _ _ => by have := c.dp_pos; omega
  | 1, n, hn => fun c d S T U st hm _ _ => by have := c.dp_pos; have := d.dp_pos; omega
  | m + 2, 0, hn => by omega
  | m + 2, 1, hn => by omega
  | m + 2, n + 2, hn => by
    have i0 := join_run hg h25 h26 h27 h28 (m + 1) (n := n) (by omega)
    have i1 := join_run hg h25 h26 h27 h28 (m + 1) (n := n + 1) (by omega)
    intro c d S T U st hm h1 h2
    have gd : ∀ g, d.pg = some g → eqD d.d (.tup [.str "any"]) = some false := fun g hd => by
      cases d <;> first | (cases hd; done) | simp [Ck.d, eqA, D.dataL, D.data, Ck.data, str_beq]
    have plain2 : ∀ (g : Kd) {k : Kd}, c.pg = some k → d.pg = some g → callF P defs (n + 2) 25 [c.d, d.d] st = some ((c.join d).d, st) := fun g k hp hd => by
      obtain ⟨_, hT⟩ := Ck.plain_ok h1 hp
      obtain ⟨hT2, _⟩ := Ck.plain_ok h2 hd
      rw [hT] at hT2
      cases hT2
      have z := jp_run h28 i0 st (by omega) h1 h2 hp hd
      rw [callF_on h25]
      cases c <;> first | (cases hp; done) | skip
      all_goals cases d <;> first | (cases hd; done) | skip
      all_goals simp only [Ck.d] at z ⊢
      all_goals simp [runD, exSs, exS, evE, evT, evEs, evL, evI, evIfs, evAnd, evOr, evAndT, evOrT, startD, getV, putV, getO, putVs, putT, wipeE, idxD, sliceD, isAbs, partD, biD, one1, lenD, intD, absD, tupleD, listS, max2D, maxD, maxI, intsD, isTD, tyD, isT, binD, cmpD, isD, n_non, n_tup, n_lst, n_int, n_str, n_bl, truD, lstAt, itemsD, forD, compD, turnF, turnC, kept_none, szOk, rg_nat, rangeL, at0, at1, at2, at3, at4, at5, at6, ix0, ix1, gc_same, gc_len, eq_int, eq_str, eq_bl, str_inj, str_beq, cut1, cut2, lr0, lr1, lr2, lr3, lr4, lr5, lr6, lr7, b25, Ck.d, eqA, eqA0, D.dataL, D.data, Ck.data, hg, z]
    have plain : ∀ k, c.pg = some k → callF P defs (n + 2) 25 [c.d, d.d] st = some ((c.join d).d, st) := fun k hp => by
      obtain ⟨hS, hT⟩ := Ck.plain_ok h1 hp
      cases d with
      | any => rw [h2.1] at hT; cases hT
      | take k' q s d => rw [h2.1] at hT; cases hT
      | fail k' q s k2 =>
        rw [callF_on h25]
        cases c <;> first | (cases hp; done) | skip
        all_goals simp [runD, exSs, exS, evE, evT, evEs, evL, evI, evIfs, evAnd, evOr, evAndT, evOrT, startD, getV, putV, getO, putVs, putT, wipeE, idxD, sliceD, isAbs, partD, biD, one1, lenD, intD, absD, tupleD, listS, max2D, maxD, maxI, intsD, isTD, tyD, isT, binD, cmpD, isD, n_non, n_tup, n_lst, n_int, n_str, n_bl, truD, lstAt, itemsD, forD, compD, turnF, turnC, kept_none, szOk, rg_nat, rangeL, at0, at1, at2, at3, at4, at5, at6, ix0, ix1, gc_same, gc_len, eq_int, eq_str, eq_bl, str_inj, str_beq, cut1, cut2, lr0, lr1, lr2, lr3, lr4, lr5, lr6, lr7, b25, Ck.d, eqA, eqA0, D.dataL, D.data, Ck.data, hg, Ck.join]
      | give d =>
        obtain ⟨rfl, k2, e1, e2, e3⟩ := h2
        rw [hT] at e1
        cases e1
        have z := jp_run h28 i0 st (by simp only [Ck.dp] at hm; omega) h1 e3 hp e2
        rw [Ck.join_give h1 e3 hp e2, callF_on h25]
        cases c <;> first | (cases hp; done) | skip
        all_goals simp only [Ck.d] at z ⊢
        all_goals simp [runD, exSs, exS, evE, evT, evEs, evL, evI, evIfs, evAnd, evOr, evAndT, evOrT, startD, getV, putV, getO, putVs, putT, wipeE, idxD, sliceD, isAbs, partD, biD, one1, lenD, intD, absD, tupleD, listS, max2D, maxD, maxI, intsD, isTD, tyD, isT, binD, cmpD, isD, n_non, n_tup, n_lst, n_int, n_str, n_bl, truD, lstAt, itemsD, forD, compD, turnF, turnC, kept_none, szOk, rg_nat, rangeL, at0, at1, at2, at3, at4, at5, at6, ix0, ix1, gc_same, gc_len, eq_int, eq_str, eq_bl, str_inj, str_beq, cut1, cut2, lr0, lr1, lr2, lr3, lr4, lr5, lr6, lr7, b25, Ck.d, eqA, eqA0, D.dataL, D.data, Ck.data, hg, z]
      | same g => exact plain2 g hp rfl
      | fn _ _ => exact plain2 .fn hp rfl
      | pair _ _ => exact plain2 .pair hp rfl
      | box _ _ => exact plain2 .box hp rfl
    cases c with
    | any =>
      rw [callF_on h25, Ck.join]
      simp [runD, exSs, exS, evE, evT, evEs, evL, evI, evIfs, evAnd, evOr, evAndT, evOrT, startD, getV, putV, getO, putVs, putT, wipeE, idxD, sliceD, isAbs, partD, biD, one1, lenD, intD, absD, tupleD, listS, max2D, maxD, maxI, intsD, isTD, tyD, isT, binD, cmpD, isD, n_non, n_tup, n_lst, n_int, n_str, n_bl, truD, lstAt, itemsD, forD, compD, turnF, turnC, kept_none, szOk, rg_nat, rangeL, at0, at1, at2, at3, at4, at5, at6, ix0, ix1, gc_same, gc_len, eq_int, eq_str, eq_bl, str_inj, str_beq, cut1, cut2, lr0, lr1, lr2, lr3, lr4, lr5, lr6, lr7, b25, Ck.d, eqA, eqA0, D.dataL, D.data, Ck.data, hg]
    | fail k q s k2 =>
      rw [callF_on h25, Ck.join]
      simp [runD, exSs, exS, evE, evT, evEs, evL, evI, evIfs, evAnd, evOr, evAndT, evOrT, startD, getV, putV, getO, putVs, putT, wipeE, idxD, sliceD, isAbs, partD, biD, one1, lenD, intD, absD, tupleD, listS, max2D, maxD, maxI, intsD, isTD, tyD, isT, binD, cmpD, isD, n_non, n_tup, n_lst, n_int, n_str, n_bl, truD, lstAt, itemsD, forD, compD, turnF, turnC, kept_none, szOk, rg_nat, rangeL, at0, at1, at2, at3, at4, at5, at6, ix0, ix1, gc_same, gc_len, eq_int, eq_str, eq_bl, str_inj, str_beq, cut1, cut2, lr0, lr1, lr2, lr3, lr4, lr5, lr6, lr7, b25, Ck.d, eqA, eqA0, D.dataL, D.data, Ck.data, hg]
    | take k q s c =>
      have z := i1 c d k.base T U st (by simp only [Ck.dp] at hm; omega) h1.2 h2
      rw [callF_on h25, Ck.join]
      simp [runD, exSs, exS, evE, evT, evEs, evL, evI, evIfs, evAnd, evOr, evAndT, evOrT, startD, getV, putV, getO, putVs, putT, wipeE, idxD, sliceD, isAbs, partD, biD, one1, lenD, intD, absD, tupleD, listS, max2D, maxD, maxI, intsD, isTD, tyD, isT, binD, cmpD, isD, n_non, n_tup, n_lst, n_int, n_str, n_bl, truD, lstAt, itemsD, forD, compD, turnF, turnC, kept_none, szOk, rg_nat, rangeL, at0, at1, at2, at3, at4, at5, at6, ix0, ix1, gc_same, gc_len, eq_int, eq_str, eq_bl, str_inj, str_beq, cut1, cut2, lr0, lr1, lr2, lr3, lr4, lr5, lr6, lr7, b25, Ck.d, eqA, eqA0, D.dataL, D.data, Ck.data, hg, z]
    | give c =>
      obtain ⟨rfl, k, h4, h5, h6⟩ := h1
      have body : callF P defs (n + 1) 27 [(Ck.give c).d, d.d] st = some (((Ck.give c).join d).d, st) := by
        rw [callF_on h27]
        cases d with
        | any => simp [runD, exSs, exS, evE, evT, evEs, evL, evI, evIfs, evAnd, evOr, evAndT, evOrT, startD, getV, putV, getO, putVs, putT, wipeE, idxD, sliceD, isAbs, partD, biD, one1, lenD, intD, absD, tupleD, listS, max2D, maxD, maxI, intsD, isTD, tyD, isT, binD, cmpD, isD, n_non, n_tup, n_lst, n_int, n_str, n_bl, truD, lstAt, itemsD, forD, compD, turnF, turnC, kept_none, szOk, rg_nat, rangeL, at0, at1, at2, at3, at4, at5, at6, ix0, ix1, gc_same, gc_len, eq_int, eq_str, eq_bl, str_inj, str_beq, cut1, cut2, lr0, lr1, lr2, lr3, lr4, lr5, lr6, lr7, b27, Ck.d, eqA, eqA0, D.dataL, D.data, Ck.data, hg, Ck.join]
        | take k' q s d =>
          have pg := fun S => pground_run (P := P) h26 h5 (n := n - 1) S
          rw [show n - 1 + 1 = n by omega] at pg
          have z := fun e : k' = k => i0 c d S k'.base U st (by simp only [Ck.dp] at hm; omega) (by rw [e]; exact h6) h2.2
          rw [Ck.join]
          by_cases e : k' = k
          · have z := z e
            subst e
            rw [if_pos h5]
            simp [runD, exSs, exS, evE, evT, evEs, evL, evI, evIfs, evAnd, evOr, evAndT, evOrT, startD, getV, putV, getO, putVs, putT, wipeE, idxD, sliceD, isAbs, partD, biD, one1, lenD, intD, absD, tupleD, listS, max2D, maxD, maxI, intsD, isTD, tyD, isT, binD, cmpD, isD, n_non, n_tup, n_lst, n_int, n_str, n_bl, truD, lstAt, itemsD, forD, compD, turnF, turnC, kept_none, szOk, rg_nat, rangeL, at0, at1, at2, at3, at4, at5, at6, ix0, ix1, gc_same, gc_len, eq_int, eq_str, eq_bl, str_inj, str_beq, cut1, cut2, lr0, lr1, lr2, lr3, lr4, lr5, lr6, lr7, b27, Ck.d, eqA, eqA0, D.dataL, D.data, Ck.data, hg, pg, z]
          · have ne : (k'.s == k.s) = false := by cases k' <;> cases k <;> first | exact absurd rfl e | simp [Kd.s, str_beq]
            rw [if_neg fun q => e (by rw [h5] at q; cases q; rfl), h5]
            have ne2 : ¬ k'.s = k.s := fun q => by rw [q, beq_self_eq_true] at ne; cases ne
            simp [runD, exSs, exS, evE, evT, evEs, evL, evI, evIfs, evAnd, evOr, evAndT, evOrT, startD, getV, putV, getO, putVs, putT, wipeE, idxD, sliceD, isAbs, partD, biD, one1, lenD, intD, absD, tupleD, listS, max2D, maxD, maxI, intsD, isTD, tyD, isT, binD, cmpD, isD, n_non, n_tup, n_lst, n_int, n_str, n_bl, truD, lstAt, itemsD, forD, compD, turnF, turnC, kept_none, szOk, rg_nat, rangeL, at0, at1, at2, at3, at4, at5, at6, ix0, ix1, gc_same, gc_len, eq_int, eq_str, eq_bl, str_inj, str_beq, cut1, cut2, lr0, lr1, lr2, lr3, lr4, lr5, lr6, lr7, b27, Ck.d, eqA, eqA0, D.dataL, D.data, Ck.data, hg, pg, ne, ne2]
        | same g => exact (base_ne h2.1.symm).elim
        | fn a b => obtain ⟨A, B, C, E, e, _⟩ := h2; cases e
        | pair a b => obtain ⟨A, B, C, E, e, _⟩ := h2; cases e
        | box a b => obtain ⟨A, C, e, _⟩ := h2; cases e
        | give c => obtain ⟨_, k2, e, _⟩ := h2; cases e
        | fail k' q s k2 => exact (any_kd h2).elim
      rw [callF_on h25]
      simp only [Ck.d] at body ⊢
      simp [runD, exSs, exS, evE, evT, evEs, evL, evI, evIfs, evAnd, evOr, evAndT, evOrT, startD, getV, putV, getO, putVs, putT, wipeE, idxD, sliceD, isAbs, partD, biD, one1, lenD, intD, absD, tupleD, listS, max2D, maxD, maxI, intsD, isTD, tyD, isT, binD, cmpD, isD, n_non, n_tup, n_lst, n_int, n_str, n_bl, truD, lstAt, itemsD, forD, compD, turnF, turnC, kept_none, szOk, rg_nat, rangeL, at0, at1, at2, at3, at4, at5, at6, ix0, ix1, gc_same, gc_len, eq_int, eq_str, eq_bl, str_inj, str_beq, cut1, cut2, lr0, lr1, lr2, lr3, lr4, lr5, lr6, lr7, b25, Ck.d, eqA, eqA0, D.dataL, D.data, Ck.data, hg, body]
    | same k => exact plain k rfl
    | fn _ _ => exact plain .fn rfl
    | pair _ _ => exact plain .pair rfl
    | box _ _ => exact plain .box rfl
end
end HN

set_option maxHeartbeats 0
/-! Checks: the check of a cast; the first blame. -/
namespace HN
open PySem L2
theorem runD_rt {P : Prg} {c m : CallF} {fd : FD} {ds : List D} {S : Store} {d : D} (hp : ds.length = fd.params) (h : exSs P c m fd.body (startD fd.slots ds) S = some (.rt d S)) : runD P c m fd ds S = some (d, S) := by
  unfold runD
  rw [if_pos hp, h]
  show some (gcD S (d, S)) = _
  rw [gc_same]
section
variable {P : Prg} {defs : Nat → Option FD}
theorem Ck.fb_while (g : Kd) {c m : CallF} {x : Slot} : ∀ (k : Ck), k.fb g = none ∨ ∃ a b, k.fb g = some (a, b) := fun k => by
  cases h : k.fb g with
  | none => exact .inl rfl
  | some p => exact .inr ⟨p.1, p.2, rfl⟩
theorem kd_ne {a b : Kd} (h : a ≠ b) : (a.s == b.s) = false := by cases a <;> cases b <;> first | exact absurd rfl h | simp [Kd.s, str_beq]
theorem kd_eq {a b : Kd} : (a.s = b.s) = (a = b) := by
  by_cases h : a = b
  · subst h; simp
  · have := kd_ne h
    rw [beq_eq_false_iff_ne] at this
    simp [h, this]
def fbD : Option (Int × Int) → D
  | none => .non
  | some p => .tup [.int p.1, .int p.2]
theorem fb_loop {cl mk : CallF} (g : Kd) (st : Store) : ∀ (c : Ck), exSs P cl mk b32 [.val c.d, .val (.str g.s)] st = some (.rt (fbD (c.fb g)) st)
  | .take k n s c => by
    have z := fb_loop g st c (cl := cl) (mk := mk)
    unfold b32 at z ⊢
    simp only [exSs, exS] at z ⊢
    rw [whileD_eq]
    by_cases e : k = g
    · subst e
      simp [runD, exSs, exS, evE, evT, evEs, evL, evI, evIfs, evAnd, evOr, evAndT, evOrT, startD, getV, putV, getO, putVs, putT, wipeE, idxD, sliceD, isAbs, partD, biD, one1, lenD, intD, absD, tupleD, listS, max2D, maxD, maxI, intsD, isTD, tyD, isT, binD, cmpD, isD, n_non, n_tup, n_lst, n_int, n_str, n_bl, truD, lstAt, itemsD, forD, compD, turnF, turnC, kept_none, szOk, rg_nat, rangeL, at0, at1, at2, at3, at4, at5, at6, ix0, ix1, gc_same, gc_len, eq_int, eq_str, eq_bl, str_inj, str_beq, cut1, cut2, lr0, lr1, lr2, lr3, lr4, lr5, lr6, lr7, turnW, flS, Ck.d, Ck.fb]
      simpa [runD, exSs, exS, evE, evT, evEs, evL, evI, evIfs, evAnd, evOr, evAndT, evOrT, startD, getV, putV, getO, putVs, putT, wipeE, idxD, sliceD, isAbs, partD, biD, one1, lenD, intD, absD, tupleD, listS, max2D, maxD, maxI, intsD, isTD, tyD, isT, binD, cmpD, isD, n_non, n_tup, n_lst, n_int, n_str, n_bl, truD, lstAt, itemsD, forD, compD, turnF, turnC, kept_none, szOk, rg_nat, rangeL, at0, at1, at2, at3, at4, at5, at6, ix0, ix1, gc_same, gc_len, eq_int, eq_str, eq_bl, str_inj, str_beq, cut1, cut2, lr0, lr1, lr2, lr3, lr4, lr5, lr6, lr7, turnW, flS] using z
    · have ne := kd_ne e
      simp [runD, exSs, exS, evE, evT, evEs, evL, evI, evIfs, evAnd, evOr, evAndT, evOrT, startD, getV, putV, getO, putVs, putT, wipeE, idxD, sliceD, isAbs, partD, biD, one1, lenD, intD, absD, tupleD, listS, max2D, maxD, maxI, intsD, isTD, tyD, isT, binD, cmpD, isD, n_non, n_tup, n_lst, n_int, n_str, n_bl, truD, lstAt, itemsD, forD, compD, turnF, turnC, kept_none, szOk, rg_nat, rangeL, at0, at1, at2, at3, at4, at5, at6, ix0, ix1, gc_same, gc_len, eq_int, eq_str, eq_bl, str_inj, str_beq, cut1, cut2, lr0, lr1, lr2, lr3, lr4, lr5, lr6, lr7, turnW, flS, Ck.d, Ck.fb, e, ne, kd_eq, fbD]
  | .any => by unfold b32; simp only [exSs, exS]; rw [whileD_eq]; simp [runD, exSs, exS, evE, evT, evEs, evL, evI, evIfs, evAnd, evOr, evAndT, evOrT, startD, getV, putV, getO, putVs, putT, wipeE, idxD, sliceD, isAbs, partD, biD, one1, lenD, intD, absD, tupleD, listS, max2D, maxD, maxI, intsD, isTD, tyD, isT, binD, cmpD, isD, n_non, n_tup, n_lst, n_int, n_str, n_bl, truD, lstAt, itemsD, forD, compD, turnF, turnC, kept_none, szOk, rg_nat, rangeL, at0, at1, at2, at3, at4, at5, at6, ix0, ix1, gc_same, gc_len, eq_int, eq_str, eq_bl, str_inj, str_beq, cut1, cut2, lr0, lr1, lr2, lr3, lr4, lr5, lr6, lr7, turnW, flS, Ck.d, Ck.fb, fbD]
  | .same k => by unfold b32; simp only [exSs, exS]; rw [whileD_eq]; simp [runD, exSs, exS, evE, evT, evEs, evL, evI, evIfs, evAnd, evOr, evAndT, evOrT, startD, getV, putV, getO, putVs, putT, wipeE, idxD, sliceD, isAbs, partD, biD, one1, lenD, intD, absD, tupleD, listS, max2D, maxD, maxI, intsD, isTD, tyD, isT, binD, cmpD, isD, n_non, n_tup, n_lst, n_int, n_str, n_bl, truD, lstAt, itemsD, forD, compD, turnF, turnC, kept_none, szOk, rg_nat, rangeL, at0, at1, at2, at3, at4, at5, at6, ix0, ix1, gc_same, gc_len, eq_int, eq_str, eq_bl, str_inj, str_beq, cut1, cut2, lr0, lr1, lr2, lr3, lr4, lr5, lr6, lr7, turnW, flS, Ck.d, Ck.fb, fbD]
  | .fn _ _ => by unfold b32; simp only [exSs, exS]; rw [whileD_eq]; simp [runD, exSs, exS, evE, evT, evEs, evL, evI, evIfs, evAnd, evOr, evAndT, evOrT, startD, getV, putV, getO, putVs, putT, wipeE, idxD, sliceD, isAbs, partD, biD, one1, lenD, intD, absD, tupleD, listS, max2D, maxD, maxI, intsD, isTD, tyD, isT, binD, cmpD, isD, n_non, n_tup, n_lst, n_int, n_str, n_bl, truD, lstAt, itemsD, forD, compD, turnF, turnC, kept_none, szOk, rg_nat, rangeL, at0, at1, at2, at3, at4, at5, at6, ix0, ix1, gc_same, gc_len, eq_int, eq_str, eq_bl, str_inj, str_beq, cut1, cut2, lr0, lr1, lr2, lr3, lr4, lr5, lr6, lr7, turnW, flS, Ck.d, Ck.fb, fbD]
  | .pair _ _ => by unfold b32; simp only [exSs, exS]; rw [whileD_eq]; simp [runD, exSs, exS, evE, evT, evEs, evL, evI, evIfs, evAnd, evOr, evAndT, evOrT, startD, getV, putV, getO, putVs, putT, wipeE, idxD, sliceD, isAbs, partD, biD, one1, lenD, intD, absD, tupleD, listS, max2D, maxD, maxI, intsD, isTD, tyD, isT, binD, cmpD, isD, n_non, n_tup, n_lst, n_int, n_str, n_bl, truD, lstAt, itemsD, forD, compD, turnF, turnC, kept_none, szOk, rg_nat, rangeL, at0, at1, at2, at3, at4, at5, at6, ix0, ix1, gc_same, gc_len, eq_int, eq_str, eq_bl, str_inj, str_beq, cut1, cut2, lr0, lr1, lr2, lr3, lr4, lr5, lr6, lr7, turnW, flS, Ck.d, Ck.fb, fbD]
  | .box _ _ => by unfold b32; simp only [exSs, exS]; rw [whileD_eq]; simp [runD, exSs, exS, evE, evT, evEs, evL, evI, evIfs, evAnd, evOr, evAndT, evOrT, startD, getV, putV, getO, putVs, putT, wipeE, idxD, sliceD, isAbs, partD, biD, one1, lenD, intD, absD, tupleD, listS, max2D, maxD, maxI, intsD, isTD, tyD, isT, binD, cmpD, isD, n_non, n_tup, n_lst, n_int, n_str, n_bl, truD, lstAt, itemsD, forD, compD, turnF, turnC, kept_none, szOk, rg_nat, rangeL, at0, at1, at2, at3, at4, at5, at6, ix0, ix1, gc_same, gc_len, eq_int, eq_str, eq_bl, str_inj, str_beq, cut1, cut2, lr0, lr1, lr2, lr3, lr4, lr5, lr6, lr7, turnW, flS, Ck.d, Ck.fb, fbD]
  | .give _ => by unfold b32; simp only [exSs, exS]; rw [whileD_eq]; simp [runD, exSs, exS, evE, evT, evEs, evL, evI, evIfs, evAnd, evOr, evAndT, evOrT, startD, getV, putV, getO, putVs, putT, wipeE, idxD, sliceD, isAbs, partD, biD, one1, lenD, intD, absD, tupleD, listS, max2D, maxD, maxI, intsD, isTD, tyD, isT, binD, cmpD, isD, n_non, n_tup, n_lst, n_int, n_str, n_bl, truD, lstAt, itemsD, forD, compD, turnF, turnC, kept_none, szOk, rg_nat, rangeL, at0, at1, at2, at3, at4, at5, at6, ix0, ix1, gc_same, gc_len, eq_int, eq_str, eq_bl, str_inj, str_beq, cut1, cut2, lr0, lr1, lr2, lr3, lr4, lr5, lr6, lr7, turnW, flS, Ck.d, Ck.fb, fbD]
  | .fail _ _ _ _ => by unfold b32; simp only [exSs, exS]; rw [whileD_eq]; simp [runD, exSs, exS, evE, evT, evEs, evL, evI, evIfs, evAnd, evOr, evAndT, evOrT, startD, getV, putV, getO, putVs, putT, wipeE, idxD, sliceD, isAbs, partD, biD, one1, lenD, intD, absD, tupleD, listS, max2D, maxD, maxI, intsD, isTD, tyD, isT, binD, cmpD, isD, n_non, n_tup, n_lst, n_int, n_str, n_bl, truD, lstAt, itemsD, forD, compD, turnF, turnC, kept_none, szOk, rg_nat, rangeL, at0, at1, at2, at3, at4, at5, at6, ix0, ix1, gc_same, gc_len, eq_int, eq_str, eq_bl, str_inj, str_beq, cut1, cut2, lr0, lr1, lr2, lr3, lr4, lr5, lr6, lr7, turnW, flS, Ck.d, Ck.fb, fbD]
theorem fb_run (h : defs 32 = some fd32) (c : Ck) (g : Kd) {n : Nat} (st : Store) : callF P defs (n + 1) 32 [c.d, .str g.s] st = some (fbD (c.fb g), st) := by
  rw [callF_on h]
  exact runD_rt rfl (fb_loop g st c)
end
theorem Ck.dp_ht : ∀ (c : Ck) (S T : Ty), c.ok S T → c.dp ≤ 3 * c.ht ∧ (S ≠ .any → c.dp + 1 ≤ 3 * c.ht) ∧ (∀ k, c.pg = some k → c.dp + 2 ≤ 3 * c.ht)
  | .any, S, T, h => ⟨by simp [Ck.dp, Ck.ht], fun q => absurd h.1 q, fun k q => by cases q⟩
  | .same k, S, T, h => ⟨by simp [Ck.dp, Ck.ht], fun _ => by simp [Ck.dp, Ck.ht], fun _ _ => by simp [Ck.dp, Ck.ht]⟩
  | .fail _ _ _ _, S, T, h => ⟨by simp [Ck.dp, Ck.ht], fun _ => by simp [Ck.dp, Ck.ht], fun k q => by cases q⟩
  | .fn a b, S, T, h => by
    obtain ⟨A, B, C, E, _, _, ha, hb⟩ := h
    have z1 := (Ck.dp_ht a _ _ ha).1
    have z2 := (Ck.dp_ht b _ _ hb).1
    simp only [Ck.dp, Ck.ht]
    exact ⟨by omega, fun _ => by omega, fun _ _ => by omega⟩
  | .pair a b, S, T, h => by
    obtain ⟨A, B, C, E, _, _, ha, hb⟩ := h
    have z1 := (Ck.dp_ht a _ _ ha).1
    have z2 := (Ck.dp_ht b _ _ hb).1
    simp only [Ck.dp, Ck.ht]
    exact ⟨by omega, fun _ => by omega, fun _ _ => by omega⟩
  | .box a b, S, T, h => by
    obtain ⟨A, C, _, _, ha, hb⟩ := h
    have z1 := (Ck.dp_ht a _ _ ha).1
    have z2 := (Ck.dp_ht b _ _ hb).1
    simp only [Ck.dp, Ck.ht]
    exact ⟨by omega, fun _ => by omega, fun _ _ => by omega⟩
  | .give c, S, T, h => by
    obtain ⟨_, k, _, hp, hc⟩ := h
    have z := (Ck.dp_ht c _ _ hc).2.2 k hp
    simp only [Ck.dp, Ck.ht]
    exact ⟨by omega, fun _ => by omega, fun _ q => by cases q⟩
  | .take k _ _ c, S, T, h => by
    have z := (Ck.dp_ht c _ _ h.2).2.1 fun q => base_ne q
    simp only [Ck.dp, Ck.ht]
    exact ⟨by omega, fun q => absurd h.1 q, fun _ q => by cases q⟩
end HN

set_option maxHeartbeats 0
/-! Checks: the check of a cast. -/
namespace HN
open PySem L2
theorem in3 (s : String) : inD (.str s) [.str "int", .str "bool", .str "unit"] = some (decide (s = "int") || (decide (s = "bool") || decide (s = "unit"))) := by
  simp [inD, D.data, D.dataL, D.dep, D.depL, D.eqv, str_beq, eq_comm]
section
variable {P : Prg} {defs : Nat → Option FD}
theorem cc_fn (h : defs 24 = some fd24) {j : Nat} {a b c d : Ty} {k s : Int} {x y : D} (e1 : ∀ st, callF P defs j 23 [c.d, a.d, .int k, .int (1 - s)] st = some (x, st)) (e2 : ∀ st, callF P defs j 23 [b.d, d.d, .int k, .int s] st = some (y, st)) (st : Store) :
    callF P defs (j + 1) 24 [(Ty.fn a b).d, (Ty.fn c d).d, .int k, .int s] st = some (.tup [.str "fun", x, y], st) := by
  rw [callF_on h]; simp [runD, exSs, exS, evE, evT, evEs, evL, evI, evIfs, evAnd, evOr, evAndT, evOrT, startD, getV, putV, getO, putVs, putT, wipeE, idxD, sliceD, isAbs, partD, biD, one1, lenD, intD, absD, tupleD, listS, max2D, maxD, maxI, intsD, isTD, tyD, isT, binD, cmpD, isD, n_non, n_tup, n_lst, n_int, n_str, n_bl, truD, lstAt, itemsD, forD, compD, turnF, turnC, kept_none, szOk, rg_nat, rangeL, at0, at1, at2, at3, at4, at5, at6, ix0, ix1, gc_same, gc_len, eq_int, eq_str, eq_bl, str_inj, str_beq, cut1, cut2, lr0, lr1, lr2, lr3, lr4, lr5, lr6, lr7, b24, Ty.d, e1, e2]
theorem cc_pair (h : defs 24 = some fd24) {j : Nat} {a b c d : Ty} {k s : Int} {x y : D} (e1 : ∀ st, callF P defs j 23 [a.d, c.d, .int k, .int s] st = some (x, st)) (e2 : ∀ st, callF P defs j 23 [b.d, d.d, .int k, .int s] st = some (y, st)) (st : Store) :
    callF P defs (j + 1) 24 [(Ty.pair a b).d, (Ty.pair c d).d, .int k, .int s] st = some (.tup [.str "pair", x, y], st) := by
  rw [callF_on h]; simp [runD, exSs, exS, evE, evT, evEs, evL, evI, evIfs, evAnd, evOr, evAndT, evOrT, startD, getV, putV, getO, putVs, putT, wipeE, idxD, sliceD, isAbs, partD, biD, one1, lenD, intD, absD, tupleD, listS, max2D, maxD, maxI, intsD, isTD, tyD, isT, binD, cmpD, isD, n_non, n_tup, n_lst, n_int, n_str, n_bl, truD, lstAt, itemsD, forD, compD, turnF, turnC, kept_none, szOk, rg_nat, rangeL, at0, at1, at2, at3, at4, at5, at6, ix0, ix1, gc_same, gc_len, eq_int, eq_str, eq_bl, str_inj, str_beq, cut1, cut2, lr0, lr1, lr2, lr3, lr4, lr5, lr6, lr7, b24, Ty.d, e1, e2]
theorem cc_box (h : defs 24 = some fd24) {j : Nat} {a c : Ty} {k s : Int} {x y : D} (e1 : ∀ st, callF P defs j 23 [c.d, a.d, .int k, .int (1 - s)] st = some (x, st)) (e2 : ∀ st, callF P defs j 23 [a.d, c.d, .int k, .int s] st = some (y, st)) (st : Store) :
    callF P defs (j + 1) 24 [(Ty.box a).d, (Ty.box c).d, .int k, .int s] st = some (.tup [.str "box", x, y], st) := by
  rw [callF_on h]; simp [runD, exSs, exS, evE, evT, evEs, evL, evI, evIfs, evAnd, evOr, evAndT, evOrT, startD, getV, putV, getO, putVs, putT, wipeE, idxD, sliceD, isAbs, partD, biD, one1, lenD, intD, absD, tupleD, listS, max2D, maxD, maxI, intsD, isTD, tyD, isT, binD, cmpD, isD, n_non, n_tup, n_lst, n_int, n_str, n_bl, truD, lstAt, itemsD, forD, compD, turnF, turnC, kept_none, szOk, rg_nat, rangeL, at0, at1, at2, at3, at4, at5, at6, ix0, ix1, gc_same, gc_len, eq_int, eq_str, eq_bl, str_inj, str_beq, cut1, cut2, lr0, lr1, lr2, lr3, lr4, lr5, lr6, lr7, b24, Ty.d, e1, e2]
variable (hg : P.glob 0 = some (.tup [.str "any"])) (hs : P.glob 1 = some (.tup [.str "int", .str "bool", .str "unit"])) (hd : P.gdict 0 = dtG) (h12 : defs 12 = some fd12) (h13 : defs 13 = some fd13) (h23 : defs 23 = some fd23) (h24 : defs 24 = some fd24)
include hg hs h23
theorem co_fn {j : Nat} {a b c d : Ty} {k s : Int} {r : D} {st : Store} (e : callF P defs j 24 [(Ty.fn a b).d, (Ty.fn c d).d, .int k, .int s] st = some (r, st)) : callF P defs (j + 1) 23 [(Ty.fn a b).d, (Ty.fn c d).d, .int k, .int s] st = some (r, st) := by
  simp only [Ty.d] at e ⊢
  rw [callF_on h23]; simp [runD, exSs, exS, evE, evT, evEs, evL, evI, evIfs, evAnd, evOr, evAndT, evOrT, startD, getV, putV, getO, putVs, putT, wipeE, idxD, sliceD, isAbs, partD, biD, one1, lenD, intD, absD, tupleD, listS, max2D, maxD, maxI, intsD, isTD, tyD, isT, binD, cmpD, isD, n_non, n_tup, n_lst, n_int, n_str, n_bl, truD, lstAt, itemsD, forD, compD, turnF, turnC, kept_none, szOk, rg_nat, rangeL, at0, at1, at2, at3, at4, at5, at6, ix0, ix1, gc_same, gc_len, eq_int, eq_str, eq_bl, str_inj, str_beq, cut1, cut2, lr0, lr1, lr2, lr3, lr4, lr5, lr6, lr7, b23, eqA, eqA0, D.dataL, D.data, Ty.data, hg, hs, in3, e]
theorem co_pair {j : Nat} {a b c d : Ty} {k s : Int} {r : D} {st : Store} (e : callF P defs j 24 [(Ty.pair a b).d, (Ty.pair c d).d, .int k, .int s] st = some (r, st)) : callF P defs (j + 1) 23 [(Ty.pair a b).d, (Ty.pair c d).d, .int k, .int s] st = some (r, st) := by
  simp only [Ty.d] at e ⊢
  rw [callF_on h23]; simp [runD, exSs, exS, evE, evT, evEs, evL, evI, evIfs, evAnd, evOr, evAndT, evOrT, startD, getV, putV, getO, putVs, putT, wipeE, idxD, sliceD, isAbs, partD, biD, one1, lenD, intD, absD, tupleD, listS, max2D, maxD, maxI, intsD, isTD, tyD, isT, binD, cmpD, isD, n_non, n_tup, n_lst, n_int, n_str, n_bl, truD, lstAt, itemsD, forD, compD, turnF, turnC, kept_none, szOk, rg_nat, rangeL, at0, at1, at2, at3, at4, at5, at6, ix0, ix1, gc_same, gc_len, eq_int, eq_str, eq_bl, str_inj, str_beq, cut1, cut2, lr0, lr1, lr2, lr3, lr4, lr5, lr6, lr7, b23, eqA, eqA0, D.dataL, D.data, Ty.data, hg, hs, in3, e]
theorem co_box {j : Nat} {a c : Ty} {k s : Int} {r : D} {st : Store} (e : callF P defs j 24 [(Ty.box a).d, (Ty.box c).d, .int k, .int s] st = some (r, st)) : callF P defs (j + 1) 23 [(Ty.box a).d, (Ty.box c).d, .int k, .int s] st = some (r, st) := by
  simp only [Ty.d] at e ⊢
  rw [callF_on h23]; simp [runD, exSs, exS, evE, evT, evEs, evL, evI, evIfs, evAnd, evOr, evAndT, evOrT, startD, getV, putV, getO, putVs, putT, wipeE, idxD, sliceD, isAbs, partD, biD, one1, lenD, intD, absD, tupleD, listS, max2D, maxD, maxI, intsD, isTD, tyD, isT, binD, cmpD, isD, n_non, n_tup, n_lst, n_int, n_str, n_bl, truD, lstAt, itemsD, forD, compD, turnF, turnC, kept_none, szOk, rg_nat, rangeL, at0, at1, at2, at3, at4, at5, at6, ix0, ix1, gc_same, gc_len, eq_int, eq_str, eq_bl, str_inj, str_beq, cut1, cut2, lr0, lr1, lr2, lr3, lr4, lr5, lr6, lr7, b23, eqA, eqA0, D.dataL, D.data, Ty.data, hg, hs, in3, e]
theorem co_leaf {j : Nat} {g : Kd} {k s : Int} (hk : g = .int ∨ g = .bool ∨ g = .unit) (st : Store) : callF P defs (j + 1) 23 [g.base.d, g.base.d, .int k, .int s] st = some ((Ck.same g).d, st) := by
  rw [callF_on h23]
  rcases hk with rfl | rfl | rfl <;> simp [runD, exSs, exS, evE, evT, evEs, evL, evI, evIfs, evAnd, evOr, evAndT, evOrT, startD, getV, putV, getO, putVs, putT, wipeE, idxD, sliceD, isAbs, partD, biD, one1, lenD, intD, absD, tupleD, listS, max2D, maxD, maxI, intsD, isTD, tyD, isT, binD, cmpD, isD, n_non, n_tup, n_lst, n_int, n_str, n_bl, truD, lstAt, itemsD, forD, compD, turnF, turnC, kept_none, szOk, rg_nat, rangeL, at0, at1, at2, at3, at4, at5, at6, ix0, ix1, gc_same, gc_len, eq_int, eq_str, eq_bl, str_inj, str_beq, cut1, cut2, lr0, lr1, lr2, lr3, lr4, lr5, lr6, lr7, b23, Kd.base, Kd.s, Ty.d, Ck.d, eqA, eqA0, D.dataL, D.data, Ty.data, hg, hs, in3]
theorem co_any {j : Nat} {k s : Int} (st : Store) : callF P defs (j + 1) 23 [Ty.any.d, Ty.any.d, .int k, .int s] st = some (Ck.any.d, st) := by
  rw [callF_on h23]
  simp [runD, exSs, exS, evE, evT, evEs, evL, evI, evIfs, evAnd, evOr, evAndT, evOrT, startD, getV, putV, getO, putVs, putT, wipeE, idxD, sliceD, isAbs, partD, biD, one1, lenD, intD, absD, tupleD, listS, max2D, maxD, maxI, intsD, isTD, tyD, isT, binD, cmpD, isD, n_non, n_tup, n_lst, n_int, n_str, n_bl, truD, lstAt, itemsD, forD, compD, turnF, turnC, kept_none, szOk, rg_nat, rangeL, at0, at1, at2, at3, at4, at5, at6, ix0, ix1, gc_same, gc_len, eq_int, eq_str, eq_bl, str_inj, str_beq, cut1, cut2, lr0, lr1, lr2, lr3, lr4, lr5, lr6, lr7, b23, Ty.d, Ck.d, eqA, eqA0, hg, hs]
include hd h12 h13
theorem co_give {j : Nat} {S : Ty} {k s : Int} {r : D} (hS : S ≠ .any) (st : Store) (e : ∀ st, callF P defs (j + 1) 23 [S.d, S.base.d, .int k, .int s] st = some (r, st)) : callF P defs (j + 2) 23 [S.d, Ty.any.d, .int k, .int s] st = some (.tup [.str "give", r], st) := by
  obtain ⟨u, l, e1, e2⟩ := Ty.base_d S hS
  have g0 := fun s l S => ground_ok (P := P) h12 (n := j) s l S
  have g2 := fun st => gtype_ok (P := P) h13 hd (n := j) e2 st
  rw [callF_on h23]
  cases S <;> first | exact absurd rfl hS | skip
  all_goals simp only [Ty.d, D.tup.injEq, List.cons.injEq, D.str.injEq] at e1
  all_goals obtain ⟨rfl, rfl⟩ := e1
  all_goals simp only [Ty.d, Ty.base] at e g2 ⊢
  all_goals simp [runD, exSs, exS, evE, evT, evEs, evL, evI, evIfs, evAnd, evOr, evAndT, evOrT, startD, getV, putV, getO, putVs, putT, wipeE, idxD, sliceD, isAbs, partD, biD, one1, lenD, intD, absD, tupleD, listS, max2D, maxD, maxI, intsD, isTD, tyD, isT, binD, cmpD, isD, n_non, n_tup, n_lst, n_int, n_str, n_bl, truD, lstAt, itemsD, forD, compD, turnF, turnC, kept_none, szOk, rg_nat, rangeL, at0, at1, at2, at3, at4, at5, at6, ix0, ix1, gc_same, gc_len, eq_int, eq_str, eq_bl, str_inj, str_beq, cut1, cut2, lr0, lr1, lr2, lr3, lr4, lr5, lr6, lr7, b23, eqA, eqA0, D.dataL, D.data, Ty.data, hg, hs, g0, g2, e]
theorem co_take {j : Nat} {T : Ty} {k s : Int} {r : D} {g : Kd} (hT : T.kd = some g) (st : Store) (e : ∀ st, callF P defs (j + 1) 23 [T.base.d, T.d, .int k, .int s] st = some (r, st)) : callF P defs (j + 2) 23 [Ty.any.d, T.d, .int k, .int s] st = some (.tup [.str "take", .str g.s, .tup [.int k, .int s], r], st) := by
  have hn : T ≠ .any := fun q => by rw [q] at hT; cases hT
  obtain ⟨u, l, e1, e2⟩ := Ty.base_d T hn
  have g0 := fun s l S => ground_ok (P := P) h12 (n := j) s l S
  have g2 := fun st => gtype_ok (P := P) h13 hd (n := j) e2 st
  rw [callF_on h23]
  cases T <;> first | exact absurd rfl hn | skip
  all_goals cases hT
  all_goals simp only [Ty.d, D.tup.injEq, List.cons.injEq, D.str.injEq] at e1
  all_goals obtain ⟨rfl, rfl⟩ := e1
  all_goals simp only [Ty.d, Ty.base] at e g2 ⊢
  all_goals simp [runD, exSs, exS, evE, evT, evEs, evL, evI, evIfs, evAnd, evOr, evAndT, evOrT, startD, getV, putV, getO, putVs, putT, wipeE, idxD, sliceD, isAbs, partD, biD, one1, lenD, intD, absD, tupleD, listS, max2D, maxD, maxI, intsD, isTD, tyD, isT, binD, cmpD, isD, n_non, n_tup, n_lst, n_int, n_str, n_bl, truD, lstAt, itemsD, forD, compD, turnF, turnC, kept_none, szOk, rg_nat, rangeL, at0, at1, at2, at3, at4, at5, at6, ix0, ix1, gc_same, gc_len, eq_int, eq_str, eq_bl, str_inj, str_beq, cut1, cut2, lr0, lr1, lr2, lr3, lr4, lr5, lr6, lr7, b23, Kd.s, eqA, eqA0, D.dataL, D.data, Ty.data, hg, hs, g0, g2, e]
include h24
theorem cof_run (k : Int) : ∀ (m : Nat) (n : Nat) (s : Int) (S T : Ty) (st : Store), S.h + T.h ≤ m → 4 * m ≤ n → S.fits T = true → callF P defs n 23 [S.d, T.d, .int k, .int s] st = some ((Ck.of k s S T).d, st)
  | 0, n, s, S, T, st, hm, _, _ => by have := S.h_pos; omega
  | m + 1, 0, s, S, T, st, hm, hn, _ => by omega
  | m + 1, 1, s, S, T, st, hm, hn, _ => by omega
  | m + 1, 2, s, S, T, st, hm, hn, _ => by omega
  | m + 1, n + 3, s, S, T, st, hm, hn, hf => by
    have fa : ∀ a : Ty, Ty.fits .any a = true := fun a => by cases a <;> rfl
    have fb : ∀ a : Ty, a.fits .any = true := fun a => by cases a <;> rfl
    have h1 : Ty.h .any = 1 := rfl
    have ih : ∀ (j : Nat) (s : Int) (S T : Ty), n ≤ j → S.h + T.h ≤ m → S.fits T = true → ∀ st, callF P defs j 23 [S.d, T.d, .int k, .int s] st = some ((Ck.of k s S T).d, st) := fun j s S T hj hm hf st => cof_run k m j s S T st hm (by omega) hf
    have F1 := fun j a b c d s x y e1 e2 st => co_fn hg hs h23 (cc_fn (P := P) h24 (j := j) (a := a) (b := b) (c := c) (d := d) (k := k) (s := s) (x := x) (y := y) e1 e2 st)
    have F2 := fun j a b c d s x y e1 e2 st => co_pair hg hs h23 (cc_pair (P := P) h24 (j := j) (a := a) (b := b) (c := c) (d := d) (k := k) (s := s) (x := x) (y := y) e1 e2 st)
    have F3 := fun j a c s x y e1 e2 st => co_box hg hs h23 (cc_box (P := P) h24 (j := j) (a := a) (c := c) (k := k) (s := s) (x := x) (y := y) e1 e2 st)
    have L := fun j g hk st => co_leaf (P := P) hg hs h23 (j := j) (g := g) (k := k) (s := s) hk st
    cases S <;> cases T <;> first | exact nb hf | skip
    all_goals rw [Ck.of]
    · exact co_any hg hs h23 st
    · exact co_take hg hs hd h12 h13 h23 (g := .int) rfl st fun st => L (n + 1) .int (.inl rfl) st
    · exact co_take hg hs hd h12 h13 h23 (g := .bool) rfl st fun st => L (n + 1) .bool (.inr (.inl rfl)) st
    · exact co_take hg hs hd h12 h13 h23 (g := .unit) rfl st fun st => L (n + 1) .unit (.inr (.inr rfl)) st
    · rename_i a b
      exact co_take hg hs hd h12 h13 h23 (g := .fn) rfl st fun st => F1 n .any .any a b s _ _ (ih n (1 - s) a .any (Nat.le_refl _) (by simp only [Ty.h] at hm ⊢; omega) (fb a)) (ih n s .any b (Nat.le_refl _) (by simp only [Ty.h] at hm ⊢; omega) (fa b)) st
    · rename_i a b
      exact co_take hg hs hd h12 h13 h23 (g := .pair) rfl st fun st => F2 n .any .any a b s _ _ (ih n s .any a (Nat.le_refl _) (by simp only [Ty.h] at hm ⊢; omega) (fa a)) (ih n s .any b (Nat.le_refl _) (by simp only [Ty.h] at hm ⊢; omega) (fa b)) st
    · rename_i a
      exact co_take hg hs hd h12 h13 h23 (g := .box) rfl st fun st => F3 n .any a s _ _ (ih n (1 - s) a .any (Nat.le_refl _) (by simp only [Ty.h] at hm ⊢; omega) (fb a)) (ih n s .any a (Nat.le_refl _) (by simp only [Ty.h] at hm ⊢; omega) (fa a)) st
    · exact co_give hg hs hd h12 h13 h23 (by intro q; cases q) st fun st => L (n + 1) .int (.inl rfl) st
    · exact L (n + 2) .int (.inl rfl) st
    · exact co_give hg hs hd h12 h13 h23 (by intro q; cases q) st fun st => L (n + 1) .bool (.inr (.inl rfl)) st
    · exact L (n + 2) .bool (.inr (.inl rfl)) st
    · exact co_give hg hs hd h12 h13 h23 (by intro q; cases q) st fun st => L (n + 1) .unit (.inr (.inr rfl)) st
    · exact L (n + 2) .unit (.inr (.inr rfl)) st
    · rename_i a b
      exact co_give hg hs hd h12 h13 h23 (by intro q; cases q) st fun st => F1 n a b .any .any s _ _ (ih n (1 - s) .any a (Nat.le_refl _) (by simp only [Ty.h] at hm ⊢; omega) (fa a)) (ih n s b .any (Nat.le_refl _) (by simp only [Ty.h] at hm ⊢; omega) (fb b)) st
    · rename_i a b c d
      obtain ⟨k1, k2⟩ := and2 hf
      exact F1 (n + 1) a b c d s _ _ (ih (n + 1) (1 - s) c a (Nat.le_succ _) (by simp only [Ty.h] at hm ⊢; omega) (by rw [Ty.fits_comm]; exact k1)) (ih (n + 1) s b d (Nat.le_succ _) (by simp only [Ty.h] at hm ⊢; omega) k2) st
    · rename_i a b
      exact co_give hg hs hd h12 h13 h23 (by intro q; cases q) st fun st => F2 n a b .any .any s _ _ (ih n s a .any (Nat.le_refl _) (by simp only [Ty.h] at hm ⊢; omega) (fb a)) (ih n s b .any (Nat.le_refl _) (by simp only [Ty.h] at hm ⊢; omega) (fb b)) st
    · rename_i a b c d
      obtain ⟨k1, k2⟩ := and2 hf
      exact F2 (n + 1) a b c d s _ _ (ih (n + 1) s a c (Nat.le_succ _) (by simp only [Ty.h] at hm ⊢; omega) k1) (ih (n + 1) s b d (Nat.le_succ _) (by simp only [Ty.h] at hm ⊢; omega) k2) st
    · rename_i a
      exact co_give hg hs hd h12 h13 h23 (by intro q; cases q) st fun st => F3 n a .any s _ _ (ih n (1 - s) .any a (Nat.le_refl _) (by simp only [Ty.h] at hm ⊢; omega) (fa a)) (ih n s a .any (Nat.le_refl _) (by simp only [Ty.h] at hm ⊢; omega) (fb a)) st
    · rename_i a c
      exact F3 (n + 1) a c s _ _ (ih (n + 1) (1 - s) c a (Nat.le_succ _) (by simp only [Ty.h] at hm ⊢; omega) (by rw [Ty.fits_comm]; exact hf)) (ih (n + 1) s a c (Nat.le_succ _) (by simp only [Ty.h] at hm ⊢; omega) hf) st
end
end HN

set_option maxHeartbeats 0
/-! Drawn types and partners (the laws on checks). -/
namespace HN
open PySem L2
/-- _law_type -/
def b29 : Ss := (.cons (.set 2 (.call 4 (.cons (.var 0) (.cons (.int 9) .nil)))) (.cons (.ite (.and (.cons (.cmp .gt (.var 1) (.int 0)) (.cons (.cmp .eq (.var 2) (.int 0)) .nil))) (.cons (.ret (.tup (.cons (.str "fun") (.cons (.call 29 (.cons (.var 0) (.cons (.bin .sub (.var 1) (.int 1)) .nil))) (.cons (.call 29 (.cons (.var 0) (.cons (.bin .sub (.var 1) (.int 1)) .nil))) .nil))))) .nil) .nil) (.cons (.ite (.and (.cons (.cmp .gt (.var 1) (.int 0)) (.cons (.cmp .eq (.var 2) (.int 1)) .nil))) (.cons (.ret (.tup (.cons (.str "pair") (.cons (.call 29 (.cons (.var 0) (.cons (.bin .sub (.var 1) (.int 1)) .nil))) (.cons (.call 29 (.cons (.var 0) (.cons (.bin .sub (.var 1) (.int 1)) .nil))) .nil))))) .nil) .nil) (.cons (.ite (.and (.cons (.cmp .gt (.var 1) (.int 0)) (.cons (.cmp .eq (.var 2) (.int 2)) .nil))) (.cons (.ret (.tup (.cons (.str "box") (.cons (.call 29 (.cons (.var 0) (.cons (.bin .sub (.var 1) (.int 1)) .nil))) .nil)))) .nil) .nil) (.cons (.ret (.idx (.frz (.disp (.cons (.tup (.cons (.str "int") .nil)) (.cons (.tup (.cons (.str "any") .nil)) (.cons (.tup (.cons (.str "bool") .nil)) (.cons (.tup (.cons (.str "int") .nil)) (.cons (.tup (.cons (.str "unit") .nil)) (.cons (.tup (.cons (.str "any") .nil)) .nil)))))))) (.bin .mod (.var 2) (.int 6)))) .nil)))))
abbrev fd29 : FD := ⟨2, 3, b29⟩
/-- _law_ground_type -/
def b31 : Ss := (.cons (.ite (.or (.cons (.cmp .eq (.var 0) (.str "fun")) (.cons (.cmp .eq (.var 0) (.str "pair")) .nil))) (.cons (.ret (.tup (.cons (.var 0) (.cons (.tup (.cons (.str "any") .nil)) (.cons (.tup (.cons (.str "any") .nil)) .nil))))) .nil) .nil) (.cons (.ite (.cmp .eq (.var 0) (.str "box")) (.cons (.ret (.tup (.cons (.str "box") (.cons (.tup (.cons (.str "any") .nil)) .nil)))) .nil) .nil) (.cons (.ret (.tup (.cons (.var 0) .nil))) .nil)))
abbrev fd31 : FD := ⟨1, 1, b31⟩
/-- _law_partner -/
def b30 : Ss := (.cons (.set 3 (.call 4 (.cons (.var 0) (.cons (.int 4) .nil)))) (.cons (.ite (.cmp .eq (.var 3) (.int 0)) (.cons (.ret (.tup (.cons (.str "any") .nil))) .nil) .nil) (.cons (.ite (.cmp .eq (.idx (.var 1) (.int 0)) (.str "any")) (.cons (.ret (.call 29 (.cons (.var 0) (.cons (.var 2) .nil)))) .nil) .nil) (.cons (.ite (.or (.cons (.cmp .eq (.idx (.var 1) (.int 0)) (.str "fun")) (.cons (.cmp .eq (.idx (.var 1) (.int 0)) (.str "pair")) .nil))) (.cons (.ret (.tup (.cons (.idx (.var 1) (.int 0)) (.cons (.call 30 (.cons (.var 0) (.cons (.idx (.var 1) (.int 1)) (.cons (.bin .sub (.var 2) (.int 1)) .nil)))) (.cons (.call 30 (.cons (.var 0) (.cons (.idx (.var 1) (.int 2)) (.cons (.bin .sub (.var 2) (.int 1)) .nil)))) .nil))))) .nil) .nil) (.cons (.ite (.cmp .eq (.idx (.var 1) (.int 0)) (.str "box")) (.cons (.ret (.tup (.cons (.str "box") (.cons (.call 30 (.cons (.var 0) (.cons (.idx (.var 1) (.int 1)) (.cons (.bin .sub (.var 2) (.int 1)) .nil)))) .nil)))) .nil) .nil) (.cons (.ret (.var 1)) .nil))))))
abbrev fd30 : FD := ⟨3, 4, b30⟩

section
variable {P : Prg} {defs : Nat → Option FD}
theorem type29_ok (h4 : defs 4 = some fd4) (h : defs 29 = some fd29) : ∀ (e : Nat) (d : Int) {n : Nat} {S : Store}, Good S → d ≤ e → e + 2 ≤ n → ∃ t S', Good S' ∧ Ty.h t ≤ e + 1 ∧ callF P defs n 29 [.ref 1, .int d] S = some (t.d, S')
  | e, d, 0, S, g, hd, hn => by omega
  | e, d, 1, S, g, hd, hn => by omega
  | e, d, n + 2, S, g, hd, hn => by
    obtain ⟨r, S1, g1, r0, r9, e0⟩ := take_ok (P := P) (n := n) h4 g (most := 9) (by decide) (by decide)
    have l0 := g.len
    have l1 := g1.len
    by_cases hc : 0 < d ∧ r < 3
    · obtain ⟨hd0, hr⟩ := hc
      obtain ⟨e, rfl⟩ : ∃ k, e = k + 1 := ⟨e - 1, by omega⟩
      obtain ⟨t1, S2, g2, k2, e1⟩ := type29_ok h4 h e (d - 1) (n := n + 1) g1 (by omega) (by omega)
      have l2 := g2.len
      have c : r = 0 ∨ r = 1 ∨ r = 2 := by omega
      rcases c with rfl | rfl | rfl
      · obtain ⟨t2, S3, g3, k3, e2⟩ := type29_ok h4 h e (d - 1) (n := n + 1) g2 (by omega) (by omega)
        have l3 := g3.len
        refine ⟨.fn t1 t2, S3, g3, by simp [Ty.h]; omega, ?_⟩
        rw [callF_on h]
        simp [runD, exSs, exS, evE, evT, evEs, evL, evI, evIfs, evAnd, evOr, evAndT, evOrT, startD, getV, putV, getO, putVs, putT, wipeE, idxD, sliceD, isAbs, partD, biD, one1, lenD, intD, absD, tupleD, listS, max2D, maxD, maxI, intsD, isTD, tyD, isT, binD, cmpD, isD, n_non, n_tup, n_lst, n_int, n_str, n_bl, truD, lstAt, itemsD, forD, compD, turnF, turnC, kept_none, szOk, rg_nat, rangeL, at0, at1, at2, at3, at4, at5, at6, ix0, ix1, gc_same, gc_len, eq_int, eq_str, eq_bl, str_inj, str_beq, cut1, cut2, lr0, lr1, lr2, lr3, lr4, lr5, lr6, lr7, b29, e0, e1, e2, l0, l1, l2, l3, hd0, Ty.d]
      · obtain ⟨t2, S3, g3, k3, e2⟩ := type29_ok h4 h e (d - 1) (n := n + 1) g2 (by omega) (by omega)
        have l3 := g3.len
        refine ⟨.pair t1 t2, S3, g3, by simp [Ty.h]; omega, ?_⟩
        rw [callF_on h]
        simp [runD, exSs, exS, evE, evT, evEs, evL, evI, evIfs, evAnd, evOr, evAndT, evOrT, startD, getV, putV, getO, putVs, putT, wipeE, idxD, sliceD, isAbs, partD, biD, one1, lenD, intD, absD, tupleD, listS, max2D, maxD, maxI, intsD, isTD, tyD, isT, binD, cmpD, isD, n_non, n_tup, n_lst, n_int, n_str, n_bl, truD, lstAt, itemsD, forD, compD, turnF, turnC, kept_none, szOk, rg_nat, rangeL, at0, at1, at2, at3, at4, at5, at6, ix0, ix1, gc_same, gc_len, eq_int, eq_str, eq_bl, str_inj, str_beq, cut1, cut2, lr0, lr1, lr2, lr3, lr4, lr5, lr6, lr7, b29, e0, e1, e2, l0, l1, l2, l3, hd0, Ty.d]
      · refine ⟨.box t1, S2, g2, by simp [Ty.h]; omega, ?_⟩
        rw [callF_on h]
        simp [runD, exSs, exS, evE, evT, evEs, evL, evI, evIfs, evAnd, evOr, evAndT, evOrT, startD, getV, putV, getO, putVs, putT, wipeE, idxD, sliceD, isAbs, partD, biD, one1, lenD, intD, absD, tupleD, listS, max2D, maxD, maxI, intsD, isTD, tyD, isT, binD, cmpD, isD, n_non, n_tup, n_lst, n_int, n_str, n_bl, truD, lstAt, itemsD, forD, compD, turnF, turnC, kept_none, szOk, rg_nat, rangeL, at0, at1, at2, at3, at4, at5, at6, ix0, ix1, gc_same, gc_len, eq_int, eq_str, eq_bl, str_inj, str_beq, cut1, cut2, lr0, lr1, lr2, lr3, lr4, lr5, lr6, lr7, b29, e0, e1, l0, l1, l2, hd0, Ty.d]
    · have m0 : 0 ≤ r % 6 := Int.emod_nonneg _ (by decide)
      have m1 : r % 6 < 6 := Int.emod_lt_of_pos _ (by decide)
      have fin : ∀ t : Ty, t.h = 1 → atI ([.tup [.str "int"], .tup [.str "any"], .tup [.str "bool"], .tup [.str "int"], .tup [.str "unit"], .tup [.str "any"]] : List D) (r % 6) = some t.d → ∃ t S', Good S' ∧ Ty.h t ≤ e + 1 ∧ callF P defs (n + 2) 29 [.ref 1, .int d] S = some (t.d, S') := fun t ht ha => by
        refine ⟨t, S1, g1, by omega, ?_⟩
        rw [callF_on h]
        by_cases hd0 : 0 < d
        · have n0 : ¬ r = 0 := by omega
          have n1 : ¬ r = 1 := by omega
          have n2 : ¬ r = 2 := by omega
          simp [runD, exSs, exS, evE, evT, evEs, evL, evI, evIfs, evAnd, evOr, evAndT, evOrT, startD, getV, putV, getO, putVs, putT, wipeE, idxD, sliceD, isAbs, partD, biD, one1, lenD, intD, absD, tupleD, listS, max2D, maxD, maxI, intsD, isTD, tyD, isT, binD, cmpD, isD, n_non, n_tup, n_lst, n_int, n_str, n_bl, truD, lstAt, itemsD, forD, compD, turnF, turnC, kept_none, szOk, rg_nat, rangeL, at0, at1, at2, at3, at4, at5, at6, ix0, ix1, gc_same, gc_len, eq_int, eq_str, eq_bl, str_inj, str_beq, cut1, cut2, lr0, lr1, lr2, lr3, lr4, lr5, lr6, lr7, b29, e0, l0, l1, ha, hd0, n0, n1, n2]
        · simp [runD, exSs, exS, evE, evT, evEs, evL, evI, evIfs, evAnd, evOr, evAndT, evOrT, startD, getV, putV, getO, putVs, putT, wipeE, idxD, sliceD, isAbs, partD, biD, one1, lenD, intD, absD, tupleD, listS, max2D, maxD, maxI, intsD, isTD, tyD, isT, binD, cmpD, isD, n_non, n_tup, n_lst, n_int, n_str, n_bl, truD, lstAt, itemsD, forD, compD, turnF, turnC, kept_none, szOk, rg_nat, rangeL, at0, at1, at2, at3, at4, at5, at6, ix0, ix1, gc_same, gc_len, eq_int, eq_str, eq_bl, str_inj, str_beq, cut1, cut2, lr0, lr1, lr2, lr3, lr4, lr5, lr6, lr7, b29, e0, l0, l1, ha, hd0]
      have c : r % 6 = 0 ∨ r % 6 = 1 ∨ r % 6 = 2 ∨ r % 6 = 3 ∨ r % 6 = 4 ∨ r % 6 = 5 := by omega
      rcases c with c | c | c | c | c | c
      · exact fin .int rfl (by rw [c]; rfl)
      · exact fin .any rfl (by rw [c]; rfl)
      · exact fin .bool rfl (by rw [c]; rfl)
      · exact fin .int rfl (by rw [c]; rfl)
      · exact fin .unit rfl (by rw [c]; rfl)
      · exact fin .any rfl (by rw [c]; rfl)
theorem partner_ok (h4 : defs 4 = some fd4) (h29 : defs 29 = some fd29) (h : defs 30 = some fd30) : ∀ (e : Nat) (t : Ty) (d : Int) {n : Nat} {S : Store}, Good S → d ≤ e → t.h + e + 3 ≤ n → ∃ t' S', Good S' ∧ Ty.h t' ≤ max t.h (e + 1) ∧ t.fits t' = true ∧ callF P defs n 30 [.ref 1, t.d, .int d] S = some (t'.d, S')
  | e, t, d, 0, S, g, hd, hn => by omega
  | e, t, d, 1, S, g, hd, hn => by omega
  | e, t, d, n + 2, S, g, hd, hn => by
    have fb : ∀ a : Ty, a.fits .any = true := fun a => by cases a <;> rfl
    obtain ⟨r, S1, g1, r0, r9, e0⟩ := take_ok (P := P) (n := n) h4 g (most := 4) (by decide) (by decide)
    have l0 := g.len
    have l1 := g1.len
    have tp := t.h_pos
    by_cases hr : r = 0
    · refine ⟨.any, S1, g1, by simp [Ty.h]; omega, fb _, ?_⟩
      rw [callF_on h]
      subst hr
      simp [runD, exSs, exS, evE, evT, evEs, evL, evI, evIfs, evAnd, evOr, evAndT, evOrT, startD, getV, putV, getO, putVs, putT, wipeE, idxD, sliceD, isAbs, partD, biD, one1, lenD, intD, absD, tupleD, listS, max2D, maxD, maxI, intsD, isTD, tyD, isT, binD, cmpD, isD, n_non, n_tup, n_lst, n_int, n_str, n_bl, truD, lstAt, itemsD, forD, compD, turnF, turnC, kept_none, szOk, rg_nat, rangeL, at0, at1, at2, at3, at4, at5, at6, ix0, ix1, gc_same, gc_len, eq_int, eq_str, eq_bl, str_inj, str_beq, cut1, cut2, lr0, lr1, lr2, lr3, lr4, lr5, lr6, lr7, b30, e0, l0, l1, Ty.d]
    cases t with
    | any =>
      obtain ⟨t', S2, g2, k2, e1⟩ := type29_ok (P := P) h4 h29 e d (n := n + 1) g1 hd (by omega)
      have l2 := g2.len
      refine ⟨t', S2, g2, by omega, by cases t' <;> rfl, ?_⟩
      rw [callF_on h]
      simp [runD, exSs, exS, evE, evT, evEs, evL, evI, evIfs, evAnd, evOr, evAndT, evOrT, startD, getV, putV, getO, putVs, putT, wipeE, idxD, sliceD, isAbs, partD, biD, one1, lenD, intD, absD, tupleD, listS, max2D, maxD, maxI, intsD, isTD, tyD, isT, binD, cmpD, isD, n_non, n_tup, n_lst, n_int, n_str, n_bl, truD, lstAt, itemsD, forD, compD, turnF, turnC, kept_none, szOk, rg_nat, rangeL, at0, at1, at2, at3, at4, at5, at6, ix0, ix1, gc_same, gc_len, eq_int, eq_str, eq_bl, str_inj, str_beq, cut1, cut2, lr0, lr1, lr2, lr3, lr4, lr5, lr6, lr7, b30, e0, e1, l0, l1, l2, hr, Ty.d]
    | int => exact ⟨.int, S1, g1, Nat.le_max_left _ _, rfl, by rw [callF_on h]; simp [runD, exSs, exS, evE, evT, evEs, evL, evI, evIfs, evAnd, evOr, evAndT, evOrT, startD, getV, putV, getO, putVs, putT, wipeE, idxD, sliceD, isAbs, partD, biD, one1, lenD, intD, absD, tupleD, listS, max2D, maxD, maxI, intsD, isTD, tyD, isT, binD, cmpD, isD, n_non, n_tup, n_lst, n_int, n_str, n_bl, truD, lstAt, itemsD, forD, compD, turnF, turnC, kept_none, szOk, rg_nat, rangeL, at0, at1, at2, at3, at4, at5, at6, ix0, ix1, gc_same, gc_len, eq_int, eq_str, eq_bl, str_inj, str_beq, cut1, cut2, lr0, lr1, lr2, lr3, lr4, lr5, lr6, lr7, b30, e0, l0, l1, hr, Ty.d]⟩
    | bool => exact ⟨.bool, S1, g1, Nat.le_max_left _ _, rfl, by rw [callF_on h]; simp [runD, exSs, exS, evE, evT, evEs, evL, evI, evIfs, evAnd, evOr, evAndT, evOrT, startD, getV, putV, getO, putVs, putT, wipeE, idxD, sliceD, isAbs, partD, biD, one1, lenD, intD, absD, tupleD, listS, max2D, maxD, maxI, intsD, isTD, tyD, isT, binD, cmpD, isD, n_non, n_tup, n_lst, n_int, n_str, n_bl, truD, lstAt, itemsD, forD, compD, turnF, turnC, kept_none, szOk, rg_nat, rangeL, at0, at1, at2, at3, at4, at5, at6, ix0, ix1, gc_same, gc_len, eq_int, eq_str, eq_bl, str_inj, str_beq, cut1, cut2, lr0, lr1, lr2, lr3, lr4, lr5, lr6, lr7, b30, e0, l0, l1, hr, Ty.d]⟩
    | unit => exact ⟨.unit, S1, g1, Nat.le_max_left _ _, rfl, by rw [callF_on h]; simp [runD, exSs, exS, evE, evT, evEs, evL, evI, evIfs, evAnd, evOr, evAndT, evOrT, startD, getV, putV, getO, putVs, putT, wipeE, idxD, sliceD, isAbs, partD, biD, one1, lenD, intD, absD, tupleD, listS, max2D, maxD, maxI, intsD, isTD, tyD, isT, binD, cmpD, isD, n_non, n_tup, n_lst, n_int, n_str, n_bl, truD, lstAt, itemsD, forD, compD, turnF, turnC, kept_none, szOk, rg_nat, rangeL, at0, at1, at2, at3, at4, at5, at6, ix0, ix1, gc_same, gc_len, eq_int, eq_str, eq_bl, str_inj, str_beq, cut1, cut2, lr0, lr1, lr2, lr3, lr4, lr5, lr6, lr7, b30, e0, l0, l1, hr, Ty.d]⟩
    | fn a b =>
      obtain ⟨t1, S2, g2, k2, f1, e1⟩ := partner_ok h4 h29 h (e - 1) a (d - 1) (n := n + 1) g1 (by omega) (by simp [Ty.h] at hn; omega)
      obtain ⟨t2, S3, g3, k3, f2, e2⟩ := partner_ok h4 h29 h (e - 1) b (d - 1) (n := n + 1) g2 (by omega) (by simp [Ty.h] at hn; omega)
      have l2 := g2.len
      have l3 := g3.len
      have := a.h_pos
      have := b.h_pos
      refine ⟨.fn t1 t2, S3, g3, by simp [Ty.h]; omega, by simp [Ty.fits, f1, f2], ?_⟩
      rw [callF_on h]
      simp [runD, exSs, exS, evE, evT, evEs, evL, evI, evIfs, evAnd, evOr, evAndT, evOrT, startD, getV, putV, getO, putVs, putT, wipeE, idxD, sliceD, isAbs, partD, biD, one1, lenD, intD, absD, tupleD, listS, max2D, maxD, maxI, intsD, isTD, tyD, isT, binD, cmpD, isD, n_non, n_tup, n_lst, n_int, n_str, n_bl, truD, lstAt, itemsD, forD, compD, turnF, turnC, kept_none, szOk, rg_nat, rangeL, at0, at1, at2, at3, at4, at5, at6, ix0, ix1, gc_same, gc_len, eq_int, eq_str, eq_bl, str_inj, str_beq, cut1, cut2, lr0, lr1, lr2, lr3, lr4, lr5, lr6, lr7, b30, e0, e1, e2, l0, l1, l2, l3, hr, Ty.d]
    | pair a b =>
      obtain ⟨t1, S2, g2, k2, f1, e1⟩ := partner_ok h4 h29 h (e - 1) a (d - 1) (n := n + 1) g1 (by omega) (by simp [Ty.h] at hn; omega)
      obtain ⟨t2, S3, g3, k3, f2, e2⟩ := partner_ok h4 h29 h (e - 1) b (d - 1) (n := n + 1) g2 (by omega) (by simp [Ty.h] at hn; omega)
      have l2 := g2.len
      have l3 := g3.len
      have := a.h_pos
      have := b.h_pos
      refine ⟨.pair t1 t2, S3, g3, by simp [Ty.h]; omega, by simp [Ty.fits, f1, f2], ?_⟩
      rw [callF_on h]
      simp [runD, exSs, exS, evE, evT, evEs, evL, evI, evIfs, evAnd, evOr, evAndT, evOrT, startD, getV, putV, getO, putVs, putT, wipeE, idxD, sliceD, isAbs, partD, biD, one1, lenD, intD, absD, tupleD, listS, max2D, maxD, maxI, intsD, isTD, tyD, isT, binD, cmpD, isD, n_non, n_tup, n_lst, n_int, n_str, n_bl, truD, lstAt, itemsD, forD, compD, turnF, turnC, kept_none, szOk, rg_nat, rangeL, at0, at1, at2, at3, at4, at5, at6, ix0, ix1, gc_same, gc_len, eq_int, eq_str, eq_bl, str_inj, str_beq, cut1, cut2, lr0, lr1, lr2, lr3, lr4, lr5, lr6, lr7, b30, e0, e1, e2, l0, l1, l2, l3, hr, Ty.d]
    | box a =>
      obtain ⟨t1, S2, g2, k2, f1, e1⟩ := partner_ok h4 h29 h (e - 1) a (d - 1) (n := n + 1) g1 (by omega) (by simp [Ty.h] at hn; omega)
      have l2 := g2.len
      have := a.h_pos
      refine ⟨.box t1, S2, g2, by simp [Ty.h]; omega, by simp [Ty.fits, f1], ?_⟩
      rw [callF_on h]
      simp [runD, exSs, exS, evE, evT, evEs, evL, evI, evIfs, evAnd, evOr, evAndT, evOrT, startD, getV, putV, getO, putVs, putT, wipeE, idxD, sliceD, isAbs, partD, biD, one1, lenD, intD, absD, tupleD, listS, max2D, maxD, maxI, intsD, isTD, tyD, isT, binD, cmpD, isD, n_non, n_tup, n_lst, n_int, n_str, n_bl, truD, lstAt, itemsD, forD, compD, turnF, turnC, kept_none, szOk, rg_nat, rangeL, at0, at1, at2, at3, at4, at5, at6, ix0, ix1, gc_same, gc_len, eq_int, eq_str, eq_bl, str_inj, str_beq, cut1, cut2, lr0, lr1, lr2, lr3, lr4, lr5, lr6, lr7, b30, e0, e1, l0, l1, l2, hr, Ty.d]
termination_by e t _ _ _ => t.h
decreasing_by all_goals simp_all [Ty.h] <;> omega
theorem ground31_ok (h : defs 31 = some fd31) (k : Kd) {n : Nat} (S : Store) : callF P defs (n + 1) 31 [.str k.s] S = some (k.base.d, S) := by
  rw [callF_on h]
  cases k <;> simp [runD, exSs, exS, evE, evT, evEs, evL, evI, evIfs, evAnd, evOr, evAndT, evOrT, startD, getV, putV, getO, putVs, putT, wipeE, idxD, sliceD, isAbs, partD, biD, one1, lenD, intD, absD, tupleD, listS, max2D, maxD, maxI, intsD, isTD, tyD, isT, binD, cmpD, isD, n_non, n_tup, n_lst, n_int, n_str, n_bl, truD, lstAt, itemsD, forD, compD, turnF, turnC, kept_none, szOk, rg_nat, rangeL, at0, at1, at2, at3, at4, at5, at6, ix0, ix1, gc_same, gc_len, eq_int, eq_str, eq_bl, str_inj, str_beq, cut1, cut2, lr0, lr1, lr2, lr3, lr4, lr5, lr6, lr7, b31, Kd.s, Kd.base, Ty.d]
end
end HN

set_option maxHeartbeats 0
/-! The name at the head of a type; the ground of a check of a cast from any. -/
namespace HN
open PySem L2
theorem idx_lst {S : Store} {l : List D} {i : Int} : idxD S (.lst l) (.int i) = atI l i := rfl
theorem idx_tup {S : Store} {l : List D} {i : Int} : idxD S (.tup l) (.int i) = atI l i := rfl
def Ty.hs : Ty → Str
  | .any => "any" | .int => "int" | .bool => "bool" | .unit => "unit" | .fn _ _ => "fun" | .pair _ _ => "pair" | .box _ => "box"
theorem Ty.idx0 (t : Ty) (S : Store) : idxD S t.d (.int 0) = some (.str t.hs) := by
  cases t <;> simp [runD, exSs, exS, evE, evT, evEs, evL, evI, evIfs, evAnd, evOr, evAndT, evOrT, startD, getV, putV, getO, putVs, putT, wipeE, idxD, sliceD, isAbs, partD, biD, one1, lenD, intD, absD, tupleD, listS, max2D, maxD, maxI, intsD, isTD, tyD, isT, binD, cmpD, isD, n_non, n_tup, n_lst, n_int, n_str, n_bl, truD, lstAt, itemsD, forD, compD, turnF, turnC, kept_none, szOk, rg_nat, rangeL, at0, at1, at2, at3, at4, at5, at6, ix0, ix1, gc_same, gc_len, eq_int, eq_str, eq_bl, str_inj, str_beq, cut1, cut2, lr0, lr1, lr2, lr3, lr4, lr5, lr6, lr7, Ty.d, Ty.hs]
theorem Ty.hs_any (t : Ty) : (t.hs == ("any" : Str)) = decide (t = .any) := by
  cases t <;> simp [Ty.hs, str_beq]
theorem Ty.hs_kd {t : Ty} {g : Kd} (h : t.kd = some g) : t.hs = g.s := by
  cases t <;> cases g <;> first | (cases h; done) | rfl
theorem Ty.hs_beq (t : Ty) (g : Kd) : (t.hs == g.s) = decide (t.kd = some g) := by
  cases t <;> cases g <;> simp [Ty.hs, Kd.s, Ty.kd, str_beq]
theorem Ty.in2 (t : Ty) (g : Kd) : inD (.str t.hs) [.str "any", .str g.s] = some (decide (t = .any) || decide (t.kd = some g)) := by
  have e1 := t.hs_any
  have e2 := t.hs_beq g
  rw [← e1, ← e2]
  simp [inD, D.data, D.dataL, D.dep, D.depL, D.eqv, BEq.comm]
/-- the first blame of the check of one cast -/
def fbOf (T F : Ty) (n s : Int) (g : Kd) : Option (Int × Int) := if T = .any ∧ F ≠ .any ∧ F.kd ≠ some g then some (n, s) else none
theorem Ck.fb_of {n s : Int} {T F : Ty} {g : Kd} (hf : T.fits F = true) : (Ck.of n s T F).fb g = fbOf T F n s g := by
  by_cases h : T = .any
  · subst h
    cases F <;> rw [Ck.of] <;> cases g <;> simp [Ck.fb, fbOf, Ty.kd]
  · rw [Ck.of_fb h hf]
    simp [fbOf, h]
theorem Kd.h_base (k : Kd) : k.base.h ≤ 2 := by cases k <;> simp [Kd.base, Ty.h]
theorem fb_eq (a b : Option (Int × Int)) : eqD (fbD a) (fbD b) = some (decide (a = b)) := by
  cases a with
  | none => cases b <;> simp [fbD, eqD, D.data, D.dataL, D.dep, D.depL, D.eqv]
  | some p =>
    obtain ⟨a1, a2⟩ := p
    cases b with
    | none => simp [fbD, eqD, D.data, D.dataL, D.dep, D.depL, D.eqv]
    | some q =>
      obtain ⟨b1, b2⟩ := q
      simp [fbD, eqD, D.data, D.dataL, D.dep, D.depL, D.eqv, D.eqvL]
      rfl
theorem fb_non (a : Option (Int × Int)) : isNon (fbD a) = decide (a = none) := by cases a <;> rfl
end HN

set_option maxHeartbeats 0
/-! Checks: labels; the laws' own check of a cast; the chain of types and checks. -/
namespace HN
open PySem L2
/-- inner_checks -/
def b34 : Ss := (.cons (.ite (.cmp .isIn (.idx (.var 0) (.int 0)) (.glob 2)) (.cons (.ret (.frz (.disp (.cons (.idx (.var 0) (.int 1)) (.cons (.idx (.var 0) (.int 2)) .nil))))) .nil) .nil) (.cons (.ite (.cmp .eq (.idx (.var 0) (.int 0)) (.str "give")) (.cons (.ret (.frz (.disp (.cons (.idx (.var 0) (.int 1)) .nil)))) .nil) .nil) (.cons (.ite (.cmp .eq (.idx (.var 0) (.int 0)) (.str "take")) (.cons (.ret (.frz (.disp (.cons (.idx (.var 0) (.int 3)) .nil)))) .nil) .nil) (.cons (.ret (.frz (.disp .nil))) .nil))))
abbrev fd34 : FD := ⟨1, 1, b34⟩
/-- all_labels -/
def b35 : Ss := (.cons (.setOwn 1 (.disp .nil)) (.cons (.ite (.cmp .isIn (.idx (.var 0) (.int 0)) (.tup (.cons (.str "take") (.cons (.str "fail") .nil)))) (.cons (.appOwn 1 (.idx (.var 0) (.int 2))) .nil) .nil) (.cons (.forS [2] true (.e (.call 34 (.cons (.var 0) .nil))) (.cons (.extOwn 1 (.call 35 (.cons (.var 2) .nil))) .nil)) (.cons (.freeze 1) (.cons (.ret (.var 1)) .nil)))))
abbrev fd35 : FD := ⟨1, 3, b35⟩
/-- labels -/
def b37 : Ss := (.cons (.set 1 .dictN) (.cons (.forS [2] true (.e (.call 35 (.cons (.var 0) .nil))) (.cons (.setKey (.var 1) (.var 2)) .nil)) (.cons (.ret (.bi .list (.cons (.var 1) .nil))) .nil)))
abbrev fd37 : FD := ⟨1, 3, b37⟩
/-- _law_check -/
def b36 : Ss := (.cons (.ite (.and (.cons (.cmp .eq (.idx (.var 0) (.int 0)) (.str "any")) (.cons (.cmp .eq (.idx (.var 1) (.int 0)) (.str "any")) .nil))) (.cons (.ret (.tup (.cons (.str "any") .nil))) .nil) .nil) (.cons (.ite (.cmp .eq (.idx (.var 1) (.int 0)) (.str "any")) (.cons (.ret (.tup (.cons (.str "give") (.cons (.call 36 (.cons (.var 0) (.cons (.call 31 (.cons (.idx (.var 0) (.int 0)) .nil)) (.cons (.var 2) (.cons (.var 3) .nil))))) .nil)))) .nil) .nil) (.cons (.ite (.cmp .eq (.idx (.var 0) (.int 0)) (.str "any")) (.cons (.ret (.tup (.cons (.str "take") (.cons (.idx (.var 1) (.int 0)) (.cons (.tup (.cons (.var 2) (.cons (.var 3) .nil))) (.cons (.call 36 (.cons (.call 31 (.cons (.idx (.var 1) (.int 0)) .nil)) (.cons (.var 1) (.cons (.var 2) (.cons (.var 3) .nil))))) .nil)))))) .nil) .nil) (.cons (.ite (.cmp .eq (.bi .len (.cons (.var 0) .nil)) (.int 1)) (.cons (.ret (.tup (.cons (.str "same") (.cons (.idx (.var 0) (.int 0)) .nil)))) .nil) .nil) (.cons (.set 4 (.bin .sub (.bi .len (.cons (.var 0) .nil)) (.int 1))) (.cons (.set 5 (.call 36 (.cons (.idx (.var 0) (.var 4)) (.cons (.idx (.var 1) (.var 4)) (.cons (.var 2) (.cons (.var 3) .nil)))))) (.cons (.ite (.cmp .eq (.idx (.var 0) (.int 0)) (.str "pair")) (.cons (.ret (.tup (.cons (.str "pair") (.cons (.call 36 (.cons (.idx (.var 0) (.int 1)) (.cons (.idx (.var 1) (.int 1)) (.cons (.var 2) (.cons (.var 3) .nil))))) (.cons (.var 5) .nil))))) .nil) .nil) (.cons (.ret (.tup (.cons (.idx (.var 0) (.int 0)) (.cons (.call 36 (.cons (.idx (.var 1) (.int 1)) (.cons (.idx (.var 0) (.int 1)) (.cons (.var 2) (.cons (.bin .sub (.int 1) (.var 3)) .nil))))) (.cons (.var 5) .nil))))) .nil))))))))
abbrev fd36 : FD := ⟨4, 6, b36⟩
/-- _law_ground -/
def b38 : Ss := (.cons (.ite (.cmp .eq (.idx (.var 0) (.int 0)) (.str "same")) (.cons (.ret (.idx (.var 0) (.int 1))) .nil) .nil) (.cons (.ret (.idx (.var 0) (.int 0))) .nil))
abbrev fd38 : FD := ⟨1, 1, b38⟩
/-- _law_chain -/
def b39 : Ss := (.cons (.setOwn 2 (.disp (.cons (.call 29 (.cons (.var 0) (.cons (.bin .add (.int 1) (.call 4 (.cons (.var 0) (.cons (.int 3) .nil)))) .nil))) .nil))) (.cons (.forS [3] true (.range1 (.var 1)) (.cons (.set 5 (.idxOwn 2 (.bin .sub (.lenOwn 2) (.int 1)))) (.cons (.ite (.cmp .eq (.call 4 (.cons (.var 0) (.cons (.int 4) .nil))) (.int 0)) (.cons (.appOwn 2 (.tup (.cons (.str "any") .nil))) .nil) (.cons (.appOwn 2 (.call 30 (.cons (.var 0) (.cons (.var 5) (.cons (.int 2) .nil))))) .nil)) .nil))) (.cons (.setOwn 4 (.disp .nil)) (.cons (.forS [3] true (.range1 (.var 1)) (.cons (.appOwn 4 (.call 36 (.cons (.idxOwn 2 (.var 3)) (.cons (.idxOwn 2 (.bin .add (.var 3) (.int 1))) (.cons (.call 4 (.cons (.var 0) (.cons (.int 50) .nil))) (.cons (.call 4 (.cons (.var 0) (.cons (.int 2) .nil))) .nil)))))) .nil)) (.cons (.freeze 4) (.cons (.freeze 2) (.cons (.ret (.tup (.cons (.var 2) (.cons (.var 4) .nil)))) .nil)))))))
abbrev fd39 : FD := ⟨2, 6, b39⟩
/-- _law_round -/
def b40 : Ss := (.cons (.set 2 (.callK 23 (.cons (.var 1) (.cons (.tup (.cons (.str "any") .nil)) .nil)) (.cons (.int 3) (.cons (.int 1) .nil)))) (.cons (.set 3 (.callK 23 (.cons (.tup (.cons (.str "any") .nil)) (.cons (.var 1) .nil)) (.cons (.bin .add (.call 4 (.cons (.var 0) (.cons (.int 9) .nil))) (.int 4)) (.cons (.call 4 (.cons (.var 0) (.cons (.int 2) .nil))) .nil)))) (.cons (.set 4 (.call 25 (.cons (.var 2) (.cons (.var 3) .nil)))) (.cons (.ite (.cmp .eq (.idx (.var 1) (.int 0)) (.str "any")) (.cons (.ret (.cmp .eq (.var 4) (.tup (.cons (.str "any") .nil)))) .nil) .nil) (.cons (.ite (.or (.cons (.cmp .ne (.call 37 (.cons (.var 4) .nil)) (.frz (.disp .nil))) (.cons (.cmp .ne (.call 38 (.cons (.var 4) .nil)) (.idx (.var 1) (.int 0))) .nil))) (.cons (.ret (.bl false)) .nil) .nil) (.cons (.set 5 (.frz (.disp (.cons (.str "int") (.cons (.str "bool") (.cons (.str "unit") (.cons (.str "fun") (.cons (.str "pair") (.cons (.str "box") .nil))))))))) (.cons (.set 6 (.idx (.var 5) (.call 4 (.cons (.var 0) (.cons (.int 6) .nil))))) (.cons (.set 7 (.callK 23 (.cons (.tup (.cons (.str "any") .nil)) (.cons (.call 31 (.cons (.var 6) .nil)) .nil)) (.cons (.int 77) (.cons (.int 0) .nil)))) (.cons (.ite (.cmp .eq (.var 6) (.idx (.var 1) (.int 0))) (.cons (.ret (.cmp .ne (.idx (.call 25 (.cons (.var 2) (.cons (.var 7) .nil))) (.int 0)) (.str "fail"))) .nil) .nil) (.cons (.ret (.cmp .eq (.call 25 (.cons (.var 2) (.cons (.var 7) .nil))) (.tup (.cons (.str "fail") (.cons (.idx (.var 1) (.int 0)) (.cons (.tup (.cons (.int 77) (.cons (.int 0) .nil))) (.cons (.var 6) .nil))))))) .nil))))))))))
abbrev fd40 : FD := ⟨2, 8, b40⟩
theorem eqv_refl : ∀ d : D, D.data d = true → D.eqv d d = true
  | .non, _ => rfl
  | .bl b, _ => by simp [D.eqv]
  | .int i, _ => by simp [D.eqv]
  | .str s, _ => by simp [D.eqv]
  | .tup l, h => eqvL_refl l h
  | .lst l, h => eqvL_refl l h
  | .scr _, h => by cases h
  | .obj _ _, h => by cases h
  | .ref _, h => by cases h
  | .dic, h => by cases h
where eqvL_refl : ∀ l : List D, D.dataL l = true → D.eqvL l l = true
  | [], _ => rfl
  | x :: xs, h => by
    have h' : (D.data x && D.dataL xs) = true := h
    rw [Bool.and_eq_true] at h'
    show (D.eqv x x && D.eqvL xs xs) = true
    rw [eqv_refl x h'.1, eqvL_refl xs h'.2] <;> rfl
theorem eq_refl {d : D} (h : D.data d = true) (hd : D.dep d ≤ 64) : eqD d d = some true := by
  unfold eqD
  rw [eqv_refl d h, h, if_pos (by simp [hd])]
theorem Ck.dep (c : Ck) : D.dep c.d ≤ c.dp + 1 := by
  induction c <;> simp_all [Ck.d, D.dep, D.depL, Ck.dp] <;> omega
theorem Ck.eq_self (c : Ck) (h : c.dp ≤ 60) : eqD c.d c.d = some true := eq_refl c.data (by have := c.dep; omega)
def Ck.inner : Ck → List Ck
  | .fn a b => [a, b]
  | .pair a b => [a, b]
  | .box a b => [a, b]
  | .give c => [c]
  | .take _ _ _ c => [c]
  | _ => []
def lbD (p : Int × Int) : D := .tup [.int p.1, .int p.2]
theorem inF (s : String) : inD (.str s) [.str "fun", .str "pair", .str "box"] = some (decide (s = "fun") || (decide (s = "pair") || decide (s = "box"))) := by
  simp [inD, D.data, D.dataL, D.dep, D.depL, D.eqv, str_beq, eq_comm]
theorem inT (s : String) : inD (.str s) [.str "take", .str "fail"] = some (decide (s = "take") || decide (s = "fail")) := by
  simp [inD, D.data, D.dataL, D.dep, D.depL, D.eqv, str_beq, eq_comm]
section
variable {P : Prg} {defs : Nat → Option FD}
theorem inner_run (hc : P.glob 2 = some (.tup [.str "fun", .str "pair", .str "box"])) (h : defs 34 = some fd34) (c : Ck) {n : Nat} (S : Store) : callF P defs (n + 1) 34 [c.d] S = some (.lst (c.inner.map Ck.d), S) := by
  rw [callF_on h]
  cases c <;> simp [runD, exSs, exS, evE, evT, evEs, evL, evI, evIfs, evAnd, evOr, evAndT, evOrT, startD, getV, putV, getO, putVs, putT, wipeE, idxD, sliceD, isAbs, partD, biD, one1, lenD, intD, absD, tupleD, listS, max2D, maxD, maxI, intsD, isTD, tyD, isT, binD, cmpD, isD, n_non, n_tup, n_lst, n_int, n_str, n_bl, truD, lstAt, itemsD, forD, compD, turnF, turnC, kept_none, szOk, rg_nat, rangeL, at0, at1, at2, at3, at4, at5, at6, ix0, ix1, gc_same, gc_len, eq_int, eq_str, eq_bl, str_inj, str_beq, cut1, cut2, lr0, lr1, lr2, lr3, lr4, lr5, lr6, lr7, b34, Ck.d, Ck.inner, hc, inF]
theorem labs_run (hc : P.glob 2 = some (.tup [.str "fun", .str "pair", .str "box"])) (h34 : defs 34 = some fd34) (h : defs 35 = some fd35) : ∀ (c : Ck) {n : Nat} (S : Store), c.dp + 1 ≤ n → c.labs.length ≤ 1000000 → callF P defs n 35 [c.d] S = some (.lst (c.labs.map lbD), S)
  | c, 0, S, hn, hl => by omega
  | c, 1, S, hn, hl => by have := c.dp_pos; omega
  | c, n + 2, S, hn, hl => by
    have ei := inner_run (P := P) hc h34 c (n := n) S
    rw [callF_on h]
    cases c with
    | any => simp only [Ck.d, Ck.inner] at ei ⊢; simp [runD, exSs, exS, evE, evT, evEs, evL, evI, evIfs, evAnd, evOr, evAndT, evOrT, startD, getV, putV, getO, putVs, putT, wipeE, idxD, sliceD, isAbs, partD, biD, one1, lenD, intD, absD, tupleD, listS, max2D, maxD, maxI, intsD, isTD, tyD, isT, binD, cmpD, isD, n_non, n_tup, n_lst, n_int, n_str, n_bl, truD, lstAt, itemsD, forD, compD, turnF, turnC, kept_none, szOk, rg_nat, rangeL, at0, at1, at2, at3, at4, at5, at6, ix0, ix1, gc_same, gc_len, eq_int, eq_str, eq_bl, str_inj, str_beq, cut1, cut2, lr0, lr1, lr2, lr3, lr4, lr5, lr6, lr7, b35, inT, ei, Ck.labs]
    | same k => simp only [Ck.d, Ck.inner] at ei ⊢; simp [runD, exSs, exS, evE, evT, evEs, evL, evI, evIfs, evAnd, evOr, evAndT, evOrT, startD, getV, putV, getO, putVs, putT, wipeE, idxD, sliceD, isAbs, partD, biD, one1, lenD, intD, absD, tupleD, listS, max2D, maxD, maxI, intsD, isTD, tyD, isT, binD, cmpD, isD, n_non, n_tup, n_lst, n_int, n_str, n_bl, truD, lstAt, itemsD, forD, compD, turnF, turnC, kept_none, szOk, rg_nat, rangeL, at0, at1, at2, at3, at4, at5, at6, ix0, ix1, gc_same, gc_len, eq_int, eq_str, eq_bl, str_inj, str_beq, cut1, cut2, lr0, lr1, lr2, lr3, lr4, lr5, lr6, lr7, b35, inT, ei, Ck.labs]
    | fail k q s k' => simp only [Ck.d, Ck.inner] at ei ⊢; simp [runD, exSs, exS, evE, evT, evEs, evL, evI, evIfs, evAnd, evOr, evAndT, evOrT, startD, getV, putV, getO, putVs, putT, wipeE, idxD, sliceD, isAbs, partD, biD, one1, lenD, intD, absD, tupleD, listS, max2D, maxD, maxI, intsD, isTD, tyD, isT, binD, cmpD, isD, n_non, n_tup, n_lst, n_int, n_str, n_bl, truD, lstAt, itemsD, forD, compD, turnF, turnC, kept_none, szOk, rg_nat, rangeL, at0, at1, at2, at3, at4, at5, at6, ix0, ix1, gc_same, gc_len, eq_int, eq_str, eq_bl, str_inj, str_beq, cut1, cut2, lr0, lr1, lr2, lr3, lr4, lr5, lr6, lr7, b35, inT, ei, Ck.labs, lbD]
    | give c =>
      have e1 := labs_run hc h34 h c (n := n + 1) S (by simp only [Ck.dp] at hn; omega) hl
      have hl' : c.labs.length ≤ 16777216 := by simp only [Ck.labs] at hl; omega
      simp only [Ck.d, Ck.inner] at ei ⊢
      simp [runD, exSs, exS, evE, evT, evEs, evL, evI, evIfs, evAnd, evOr, evAndT, evOrT, startD, getV, putV, getO, putVs, putT, wipeE, idxD, sliceD, isAbs, partD, biD, one1, lenD, intD, absD, tupleD, listS, max2D, maxD, maxI, intsD, isTD, tyD, isT, binD, cmpD, isD, n_non, n_tup, n_lst, n_int, n_str, n_bl, truD, lstAt, itemsD, forD, compD, turnF, turnC, kept_none, szOk, rg_nat, rangeL, at0, at1, at2, at3, at4, at5, at6, ix0, ix1, gc_same, gc_len, eq_int, eq_str, eq_bl, str_inj, str_beq, cut1, cut2, lr0, lr1, lr2, lr3, lr4, lr5, lr6, lr7, b35, inT, ei, e1, Ck.labs, hl']
    | take k q s c =>
      have e1 := labs_run hc h34 h c (n := n + 1) S (by simp only [Ck.dp] at hn; omega) (by simp only [Ck.labs, List.length_cons] at hl; omega)
      have hl' : 1 + c.labs.length ≤ 16777216 := by simp only [Ck.labs, List.length_cons] at hl; omega
      simp only [Ck.d, Ck.inner] at ei ⊢
      simp [runD, exSs, exS, evE, evT, evEs, evL, evI, evIfs, evAnd, evOr, evAndT, evOrT, startD, getV, putV, getO, putVs, putT, wipeE, idxD, sliceD, isAbs, partD, biD, one1, lenD, intD, absD, tupleD, listS, max2D, maxD, maxI, intsD, isTD, tyD, isT, binD, cmpD, isD, n_non, n_tup, n_lst, n_int, n_str, n_bl, truD, lstAt, itemsD, forD, compD, turnF, turnC, kept_none, szOk, rg_nat, rangeL, at0, at1, at2, at3, at4, at5, at6, ix0, ix1, gc_same, gc_len, eq_int, eq_str, eq_bl, str_inj, str_beq, cut1, cut2, lr0, lr1, lr2, lr3, lr4, lr5, lr6, lr7, b35, inT, ei, e1, Ck.labs, hl', lbD]
    | fn a b =>
      simp only [Ck.labs, List.length_append] at hl
      have e1 := labs_run hc h34 h a (n := n + 1) S (by simp only [Ck.dp] at hn; omega) (by omega)
      have e2 := labs_run hc h34 h b (n := n + 1) S (by simp only [Ck.dp] at hn; omega) (by omega)
      have hl1 : a.labs.length ≤ 16777216 := by omega
      have hl' : a.labs.length + b.labs.length ≤ 16777216 := by omega
      simp only [Ck.d, Ck.inner] at ei ⊢
      simp [runD, exSs, exS, evE, evT, evEs, evL, evI, evIfs, evAnd, evOr, evAndT, evOrT, startD, getV, putV, getO, putVs, putT, wipeE, idxD, sliceD, isAbs, partD, biD, one1, lenD, intD, absD, tupleD, listS, max2D, maxD, maxI, intsD, isTD, tyD, isT, binD, cmpD, isD, n_non, n_tup, n_lst, n_int, n_str, n_bl, truD, lstAt, itemsD, forD, compD, turnF, turnC, kept_none, szOk, rg_nat, rangeL, at0, at1, at2, at3, at4, at5, at6, ix0, ix1, gc_same, gc_len, eq_int, eq_str, eq_bl, str_inj, str_beq, cut1, cut2, lr0, lr1, lr2, lr3, lr4, lr5, lr6, lr7, b35, inT, ei, e1, e2, Ck.labs, hl1, hl']
    | pair a b =>
      simp only [Ck.labs, List.length_append] at hl
      have e1 := labs_run hc h34 h a (n := n + 1) S (by simp only [Ck.dp] at hn; omega) (by omega)
      have e2 := labs_run hc h34 h b (n := n + 1) S (by simp only [Ck.dp] at hn; omega) (by omega)
      have hl1 : a.labs.length ≤ 16777216 := by omega
      have hl' : a.labs.length + b.labs.length ≤ 16777216 := by omega
      simp only [Ck.d, Ck.inner] at ei ⊢
      simp [runD, exSs, exS, evE, evT, evEs, evL, evI, evIfs, evAnd, evOr, evAndT, evOrT, startD, getV, putV, getO, putVs, putT, wipeE, idxD, sliceD, isAbs, partD, biD, one1, lenD, intD, absD, tupleD, listS, max2D, maxD, maxI, intsD, isTD, tyD, isT, binD, cmpD, isD, n_non, n_tup, n_lst, n_int, n_str, n_bl, truD, lstAt, itemsD, forD, compD, turnF, turnC, kept_none, szOk, rg_nat, rangeL, at0, at1, at2, at3, at4, at5, at6, ix0, ix1, gc_same, gc_len, eq_int, eq_str, eq_bl, str_inj, str_beq, cut1, cut2, lr0, lr1, lr2, lr3, lr4, lr5, lr6, lr7, b35, inT, ei, e1, e2, Ck.labs, hl1, hl']
    | box a b =>
      simp only [Ck.labs, List.length_append] at hl
      have e1 := labs_run hc h34 h a (n := n + 1) S (by simp only [Ck.dp] at hn; omega) (by omega)
      have e2 := labs_run hc h34 h b (n := n + 1) S (by simp only [Ck.dp] at hn; omega) (by omega)
      have hl1 : a.labs.length ≤ 16777216 := by omega
      have hl' : a.labs.length + b.labs.length ≤ 16777216 := by omega
      simp only [Ck.d, Ck.inner] at ei ⊢
      simp [runD, exSs, exS, evE, evT, evEs, evL, evI, evIfs, evAnd, evOr, evAndT, evOrT, startD, getV, putV, getO, putVs, putT, wipeE, idxD, sliceD, isAbs, partD, biD, one1, lenD, intD, absD, tupleD, listS, max2D, maxD, maxI, intsD, isTD, tyD, isT, binD, cmpD, isD, n_non, n_tup, n_lst, n_int, n_str, n_bl, truD, lstAt, itemsD, forD, compD, turnF, turnC, kept_none, szOk, rg_nat, rangeL, at0, at1, at2, at3, at4, at5, at6, ix0, ix1, gc_same, gc_len, eq_int, eq_str, eq_bl, str_inj, str_beq, cut1, cut2, lr0, lr1, lr2, lr3, lr4, lr5, lr6, lr7, b35, inT, ei, e1, e2, Ck.labs, hl1, hl']
def addAll (ks : List (List Int)) (l : List (Int × Int)) : List (List Int) := l.foldl (fun ks p => addK ks [p.1, p.2]) ks
theorem addK_le (ks : List (List Int)) (k : List Int) : (addK ks k).length ≤ ks.length + 1 := by
  unfold addK
  split
  · omega
  · rw [List.length_append]; simp
theorem lastS_at (S : Store) (o : SO) : (S ++ [o])[S.length]? = some o := by simp
theorem last_set (S : Store) (o o' : SO) : (S ++ [o]).set S.length o' = S ++ [o'] := by simp
theorem keyT_bdd (n : Nat) (ks : List (List Int)) : D.bdd n (.lst (ks.map keyT)) = true := by
  show D.bddL n (ks.map keyT) = true
  induction ks with
  | nil => rfl
  | cons k ks ih =>
    have h : ∀ l : List Int, D.bddL n (l.map D.int) = true := fun l => by
      induction l with
      | nil => rfl
      | cons i l ih => simp [D.bddL, D.bdd, ih]
    simp [D.bddL, keyT, D.bdd, h, ih]
def lkb : Ss := (.cons (.setKey (.var 1) (.var 2)) .nil)
theorem lab_loop {c mk : CallF} {x : Slot} {S : Store} : ∀ (l : List (Int × Int)) (ks : List (List Int)) {s2 : Slot}, ks.length + l.length ≤ 1000000 →
    ∃ s2', forD (turnF true [2] none (exSs P c mk lkb)) (l.map lbD) [x, .val (.ref S.length), s2] (S ++ [.dct ks]) = some (.nx [x, .val (.ref S.length), s2'] (S ++ [.dct (addAll ks l)]))
  | [], ks, s2, h => ⟨s2, rfl⟩
  | p :: l, ks, s2, h => by
    simp only [List.length_cons] at h
    have hk := addK_le ks [p.1, p.2]
    obtain ⟨s2', e2⟩ := lab_loop (c := c) (mk := mk) (x := x) (S := S) l (addK ks [p.1, p.2]) (s2 := .val (lbD p)) (by omega)
    refine ⟨s2', ?_⟩
    have hz : ks.length < 16777216 := by omega
    have sk : setKeyD (.ref S.length) (lbD p) (S ++ [.dct ks]) = some (S ++ [.dct (addK ks [p.1, p.2])]) := by
      unfold setKeyD
      simp only [lastS_at]
      rw [if_pos hz]
      simp [lbD, keyD, keyI, last_set]
    have et : turnF true [2] none (exSs P c mk lkb) (lbD p) [x, .val (.ref S.length), s2] (S ++ [.dct ks]) = some (.nx [x, .val (.ref S.length), .val (lbD p)] (S ++ [.dct (addK ks [p.1, p.2])])) := by
      simp [turnF, putT, putV, exSs, exS, lkb, evE, getV, sk, kept_none]
    show (turnF true [2] none (exSs P c mk lkb) (lbD p) _ _).bind _ = _
    rw [et]
    exact e2
theorem labels_run (hc : P.glob 2 = some (.tup [.str "fun", .str "pair", .str "box"])) (h34 : defs 34 = some fd34) (h35 : defs 35 = some fd35) (h : defs 37 = some fd37) (c : Ck) {n : Nat} (S : Store) (hn : c.dp + 1 ≤ n) (hl : c.labs.length ≤ 1000000) : callF P defs (n + 1) 37 [c.d] S = some (.lst ((addAll [] c.labs).map keyT), S) := by
  have e := fun S => labs_run (P := P) hc h34 h35 c S hn hl
  obtain ⟨s2', ef⟩ := lab_loop (P := P) (c := callF P defs n) (mk := (callP P defs n).2) (x := .val c.d) (S := S) c.labs [] (s2 := .un) (by simpa using hl)
  have eb : exSs P (callF P defs n) (callP P defs n).2 b37 [.val c.d, .un, .un] S = some (.rt (.lst ((addAll [] c.labs).map keyT)) (S ++ [.dct (addAll [] c.labs)])) := by
    have ev : evI P (callF P defs n) (callP P defs n).2 (.e (.call 35 (.cons (.var 0) .nil))) [.val c.d, .val (.ref S.length), .un] (S ++ [.dct []]) = some ((c.labs.map lbD, none), S ++ [.dct []]) := by simp [evI, evE, evEs, getV, e, itemsD]
    have e2 : exS P (callF P defs n) (callP P defs n).2 (.forS [2] true (.e (.call 35 (.cons (.var 0) .nil))) lkb) [.val c.d, .val (.ref S.length), .un] (S ++ [.dct []]) = some (.nx [.val c.d, .val (.ref S.length), s2'] (S ++ [.dct (addAll [] c.labs)])) := by
      simp only [exS, ev, Option.bind_some, ef]
    show (exS P _ _ (.set 1 .dictN) _ S).bind _ = _
    show exSs P _ _ (.cons (.forS [2] true (.e (.call 35 (.cons (.var 0) .nil))) lkb) _) [.val c.d, .val (.ref S.length), .un] (S ++ [.dct []]) = _
    show (exS P _ _ (.forS [2] true (.e (.call 35 (.cons (.var 0) .nil))) lkb) _ _).bind _ = _
    rw [e2]
    show exSs P _ _ (.cons (.ret (.bi .list (.cons (.var 1) .nil))) .nil) [.val c.d, .val (.ref S.length), s2'] (S ++ [.dct (addAll [] c.labs)]) = _
    generalize addAll [] c.labs = K
    simp [exSs, exS, evE, evEs, getV, biD, one1, listS, lastS_at]
  rw [callF_on h]
  unfold runD
  rw [if_pos (show [c.d].length = fd37.params from rfl)]
  show ((exSs P _ _ b37 [.val c.d, .un, .un] S).map _) = _
  rw [eb]
  show some (gcD S (D.lst ((addAll [] c.labs).map keyT), S ++ [.dct (addAll [] c.labs)])) = _
  unfold gcD
  rw [if_pos ⟨List.take_left, keyT_bdd _ _⟩]
theorem nolab_run (hc : P.glob 2 = some (.tup [.str "fun", .str "pair", .str "box"])) (h34 : defs 34 = some fd34) (h35 : defs 35 = some fd35) (h : defs 37 = some fd37) (c : Ck) {n : Nat} (S : Store) (hn : c.dp + 1 ≤ n) (hl : c.labs = []) : callF P defs (n + 1) 37 [c.d] S = some (.lst [], S) := by
  have e := labels_run (P := P) hc h34 h35 h c S hn (by rw [hl]; simp)
  rw [hl] at e
  exact e
theorem lground_run (h : defs 38 = some fd38) {c : Ck} {k : Kd} (hp : c.pg = some k) {n : Nat} (S : Store) : callF P defs (n + 1) 38 [c.d] S = some (.str k.s, S) := by
  rw [callF_on h]
  cases c <;> simp [Ck.pg] at hp
  all_goals subst hp
  all_goals simp [runD, exSs, exS, evE, evT, evEs, evL, evI, evIfs, evAnd, evOr, evAndT, evOrT, startD, getV, putV, getO, putVs, putT, wipeE, idxD, sliceD, isAbs, partD, biD, one1, lenD, intD, absD, tupleD, listS, max2D, maxD, maxI, intsD, isTD, tyD, isT, binD, cmpD, isD, n_non, n_tup, n_lst, n_int, n_str, n_bl, truD, lstAt, itemsD, forD, compD, turnF, turnC, kept_none, szOk, rg_nat, rangeL, at0, at1, at2, at3, at4, at5, at6, ix0, ix1, gc_same, gc_len, eq_int, eq_str, eq_bl, str_inj, str_beq, cut1, cut2, lr0, lr1, lr2, lr3, lr4, lr5, lr6, lr7, b38, Ck.d, Kd.s]
end
end HN

set_option maxHeartbeats 0
/-! The laws' own check of a cast; the chain of types and checks. -/
namespace HN
open PySem L2
section
variable {P : Prg} {defs : Nat → Option FD} (h31 : defs 31 = some fd31) (h : defs 36 = some fd36)
include h
theorem lk_fn {j : Nat} {a b c d : Ty} {k s : Int} {x y : D} (e1 : ∀ st, callF P defs j 36 [c.d, a.d, .int k, .int (1 - s)] st = some (x, st)) (e2 : ∀ st, callF P defs j 36 [b.d, d.d, .int k, .int s] st = some (y, st)) (st : Store) :
    callF P defs (j + 1) 36 [(Ty.fn a b).d, (Ty.fn c d).d, .int k, .int s] st = some (.tup [.str "fun", x, y], st) := by
  rw [callF_on h]; simp [runD, exSs, exS, evE, evT, evEs, evL, evI, evIfs, evAnd, evOr, evAndT, evOrT, startD, getV, putV, getO, putVs, putT, wipeE, idxD, sliceD, isAbs, partD, biD, one1, lenD, intD, absD, tupleD, listS, max2D, maxD, maxI, intsD, isTD, tyD, isT, binD, cmpD, isD, n_non, n_tup, n_lst, n_int, n_str, n_bl, truD, lstAt, itemsD, forD, compD, turnF, turnC, kept_none, szOk, rg_nat, rangeL, at0, at1, at2, at3, at4, at5, at6, ix0, ix1, gc_same, gc_len, eq_int, eq_str, eq_bl, str_inj, str_beq, cut1, cut2, lr0, lr1, lr2, lr3, lr4, lr5, lr6, lr7, b36, Ty.d, e1, e2]
theorem lk_pair {j : Nat} {a b c d : Ty} {k s : Int} {x y : D} (e1 : ∀ st, callF P defs j 36 [a.d, c.d, .int k, .int s] st = some (x, st)) (e2 : ∀ st, callF P defs j 36 [b.d, d.d, .int k, .int s] st = some (y, st)) (st : Store) :
    callF P defs (j + 1) 36 [(Ty.pair a b).d, (Ty.pair c d).d, .int k, .int s] st = some (.tup [.str "pair", x, y], st) := by
  rw [callF_on h]; simp [runD, exSs, exS, evE, evT, evEs, evL, evI, evIfs, evAnd, evOr, evAndT, evOrT, startD, getV, putV, getO, putVs, putT, wipeE, idxD, sliceD, isAbs, partD, biD, one1, lenD, intD, absD, tupleD, listS, max2D, maxD, maxI, intsD, isTD, tyD, isT, binD, cmpD, isD, n_non, n_tup, n_lst, n_int, n_str, n_bl, truD, lstAt, itemsD, forD, compD, turnF, turnC, kept_none, szOk, rg_nat, rangeL, at0, at1, at2, at3, at4, at5, at6, ix0, ix1, gc_same, gc_len, eq_int, eq_str, eq_bl, str_inj, str_beq, cut1, cut2, lr0, lr1, lr2, lr3, lr4, lr5, lr6, lr7, b36, Ty.d, e1, e2]
theorem lk_box {j : Nat} {a c : Ty} {k s : Int} {x y : D} (e1 : ∀ st, callF P defs j 36 [c.d, a.d, .int k, .int (1 - s)] st = some (x, st)) (e2 : ∀ st, callF P defs j 36 [a.d, c.d, .int k, .int s] st = some (y, st)) (st : Store) :
    callF P defs (j + 1) 36 [(Ty.box a).d, (Ty.box c).d, .int k, .int s] st = some (.tup [.str "box", x, y], st) := by
  rw [callF_on h]; simp [runD, exSs, exS, evE, evT, evEs, evL, evI, evIfs, evAnd, evOr, evAndT, evOrT, startD, getV, putV, getO, putVs, putT, wipeE, idxD, sliceD, isAbs, partD, biD, one1, lenD, intD, absD, tupleD, listS, max2D, maxD, maxI, intsD, isTD, tyD, isT, binD, cmpD, isD, n_non, n_tup, n_lst, n_int, n_str, n_bl, truD, lstAt, itemsD, forD, compD, turnF, turnC, kept_none, szOk, rg_nat, rangeL, at0, at1, at2, at3, at4, at5, at6, ix0, ix1, gc_same, gc_len, eq_int, eq_str, eq_bl, str_inj, str_beq, cut1, cut2, lr0, lr1, lr2, lr3, lr4, lr5, lr6, lr7, b36, Ty.d, e1, e2]
theorem lk_leaf {j : Nat} {g : Kd} {k s : Int} (hk : g = .int ∨ g = .bool ∨ g = .unit) (st : Store) : callF P defs (j + 1) 36 [g.base.d, g.base.d, .int k, .int s] st = some ((Ck.same g).d, st) := by
  rw [callF_on h]
  rcases hk with rfl | rfl | rfl <;> simp [runD, exSs, exS, evE, evT, evEs, evL, evI, evIfs, evAnd, evOr, evAndT, evOrT, startD, getV, putV, getO, putVs, putT, wipeE, idxD, sliceD, isAbs, partD, biD, one1, lenD, intD, absD, tupleD, listS, max2D, maxD, maxI, intsD, isTD, tyD, isT, binD, cmpD, isD, n_non, n_tup, n_lst, n_int, n_str, n_bl, truD, lstAt, itemsD, forD, compD, turnF, turnC, kept_none, szOk, rg_nat, rangeL, at0, at1, at2, at3, at4, at5, at6, ix0, ix1, gc_same, gc_len, eq_int, eq_str, eq_bl, str_inj, str_beq, cut1, cut2, lr0, lr1, lr2, lr3, lr4, lr5, lr6, lr7, b36, Kd.base, Kd.s, Ty.d, Ck.d]
theorem lk_any {j : Nat} {k s : Int} (st : Store) : callF P defs (j + 1) 36 [Ty.any.d, Ty.any.d, .int k, .int s] st = some (Ck.any.d, st) := by
  rw [callF_on h]
  simp [runD, exSs, exS, evE, evT, evEs, evL, evI, evIfs, evAnd, evOr, evAndT, evOrT, startD, getV, putV, getO, putVs, putT, wipeE, idxD, sliceD, isAbs, partD, biD, one1, lenD, intD, absD, tupleD, listS, max2D, maxD, maxI, intsD, isTD, tyD, isT, binD, cmpD, isD, n_non, n_tup, n_lst, n_int, n_str, n_bl, truD, lstAt, itemsD, forD, compD, turnF, turnC, kept_none, szOk, rg_nat, rangeL, at0, at1, at2, at3, at4, at5, at6, ix0, ix1, gc_same, gc_len, eq_int, eq_str, eq_bl, str_inj, str_beq, cut1, cut2, lr0, lr1, lr2, lr3, lr4, lr5, lr6, lr7, b36, Ty.d, Ck.d]
include h31
theorem lk_give {j : Nat} {S : Ty} {k s : Int} {r : D} {g : Kd} (hS : S.kd = some g) (st : Store) (e : ∀ st, callF P defs (j + 1) 36 [S.d, g.base.d, .int k, .int s] st = some (r, st)) : callF P defs (j + 2) 36 [S.d, Ty.any.d, .int k, .int s] st = some (.tup [.str "give", r], st) := by
  have g2 := fun st => ground31_ok (P := P) h31 g (n := j) st
  rw [callF_on h]
  cases S <;> cases hS
  all_goals simp only [Ty.d, Kd.s] at e g2 ⊢
  all_goals simp [runD, exSs, exS, evE, evT, evEs, evL, evI, evIfs, evAnd, evOr, evAndT, evOrT, startD, getV, putV, getO, putVs, putT, wipeE, idxD, sliceD, isAbs, partD, biD, one1, lenD, intD, absD, tupleD, listS, max2D, maxD, maxI, intsD, isTD, tyD, isT, binD, cmpD, isD, n_non, n_tup, n_lst, n_int, n_str, n_bl, truD, lstAt, itemsD, forD, compD, turnF, turnC, kept_none, szOk, rg_nat, rangeL, at0, at1, at2, at3, at4, at5, at6, ix0, ix1, gc_same, gc_len, eq_int, eq_str, eq_bl, str_inj, str_beq, cut1, cut2, lr0, lr1, lr2, lr3, lr4, lr5, lr6, lr7, b36, g2, e]
theorem lk_take {j : Nat} {T : Ty} {k s : Int} {r : D} {g : Kd} (hT : T.kd = some g) (st : Store) (e : ∀ st, callF P defs (j + 1) 36 [g.base.d, T.d, .int k, .int s] st = some (r, st)) : callF P defs (j + 2) 36 [Ty.any.d, T.d, .int k, .int s] st = some (.tup [.str "take", .str g.s, .tup [.int k, .int s], r], st) := by
  have g2 := fun st => ground31_ok (P := P) h31 g (n := j) st
  rw [callF_on h]
  cases T <;> cases hT
  all_goals simp only [Ty.d, Kd.s] at e g2 ⊢
  all_goals simp [runD, exSs, exS, evE, evT, evEs, evL, evI, evIfs, evAnd, evOr, evAndT, evOrT, startD, getV, putV, getO, putVs, putT, wipeE, idxD, sliceD, isAbs, partD, biD, one1, lenD, intD, absD, tupleD, listS, max2D, maxD, maxI, intsD, isTD, tyD, isT, binD, cmpD, isD, n_non, n_tup, n_lst, n_int, n_str, n_bl, truD, lstAt, itemsD, forD, compD, turnF, turnC, kept_none, szOk, rg_nat, rangeL, at0, at1, at2, at3, at4, at5, at6, ix0, ix1, gc_same, gc_len, eq_int, eq_str, eq_bl, str_inj, str_beq, cut1, cut2, lr0, lr1, lr2, lr3, lr4, lr5, lr6, lr7, b36, g2, e]
theorem lck_run (k : Int) : ∀ (m : Nat) (n : Nat) (s : Int) (S T : Ty) (st : Store), S.h + T.h ≤ m → 3 * m ≤ n → S.fits T = true → callF P defs n 36 [S.d, T.d, .int k, .int s] st = some ((Ck.of k s S T).d, st)
  | 0, n, s, S, T, st, hm, _, _ => by have := S.h_pos; omega
  | m + 1, 0, s, S, T, st, hm, hn, _ => by omega
  | m + 1, 1, s, S, T, st, hm, hn, _ => by omega
  | m + 1, n + 2, s, S, T, st, hm, hn, hf => by
    have fa : ∀ a : Ty, Ty.fits .any a = true := fun a => by cases a <;> rfl
    have fb : ∀ a : Ty, a.fits .any = true := fun a => by cases a <;> rfl
    have h1 : Ty.h .any = 1 := rfl
    have ih : ∀ (j : Nat) (s : Int) (S T : Ty), n ≤ j → S.h + T.h ≤ m → S.fits T = true → ∀ st, callF P defs j 36 [S.d, T.d, .int k, .int s] st = some ((Ck.of k s S T).d, st) := fun j s S T hj hm hf st => lck_run k m j s S T st hm (by omega) hf
    have F1 := fun j a b c d s x y e1 e2 st => lk_fn (P := P) h (j := j) (a := a) (b := b) (c := c) (d := d) (k := k) (s := s) (x := x) (y := y) e1 e2 st
    have F2 := fun j a b c d s x y e1 e2 st => lk_pair (P := P) h (j := j) (a := a) (b := b) (c := c) (d := d) (k := k) (s := s) (x := x) (y := y) e1 e2 st
    have F3 := fun j a c s x y e1 e2 st => lk_box (P := P) h (j := j) (a := a) (c := c) (k := k) (s := s) (x := x) (y := y) e1 e2 st
    have L := fun j g hk st => lk_leaf (P := P) h (j := j) (g := g) (k := k) (s := s) hk st
    cases S <;> cases T <;> first | exact nb hf | skip
    all_goals rw [Ck.of]
    · exact lk_any h st
    · exact lk_take h31 h (g := .int) rfl st fun st => L n .int (.inl rfl) st
    · exact lk_take h31 h (g := .bool) rfl st fun st => L n .bool (.inr (.inl rfl)) st
    · exact lk_take h31 h (g := .unit) rfl st fun st => L n .unit (.inr (.inr rfl)) st
    · rename_i a b
      exact lk_take h31 h (g := .fn) rfl st fun st => F1 n .any .any a b s _ _ (ih n (1 - s) a .any (Nat.le_refl _) (by simp only [Ty.h] at hm ⊢; omega) (fb a)) (ih n s .any b (Nat.le_refl _) (by simp only [Ty.h] at hm ⊢; omega) (fa b)) st
    · rename_i a b
      exact lk_take h31 h (g := .pair) rfl st fun st => F2 n .any .any a b s _ _ (ih n s .any a (Nat.le_refl _) (by simp only [Ty.h] at hm ⊢; omega) (fa a)) (ih n s .any b (Nat.le_refl _) (by simp only [Ty.h] at hm ⊢; omega) (fa b)) st
    · rename_i a
      exact lk_take h31 h (g := .box) rfl st fun st => F3 n .any a s _ _ (ih n (1 - s) a .any (Nat.le_refl _) (by simp only [Ty.h] at hm ⊢; omega) (fb a)) (ih n s .any a (Nat.le_refl _) (by simp only [Ty.h] at hm ⊢; omega) (fa a)) st
    · exact lk_give h31 h (g := .int) rfl st fun st => L n .int (.inl rfl) st
    · exact L (n + 1) .int (.inl rfl) st
    · exact lk_give h31 h (g := .bool) rfl st fun st => L n .bool (.inr (.inl rfl)) st
    · exact L (n + 1) .bool (.inr (.inl rfl)) st
    · exact lk_give h31 h (g := .unit) rfl st fun st => L n .unit (.inr (.inr rfl)) st
    · exact L (n + 1) .unit (.inr (.inr rfl)) st
    · rename_i a b
      exact lk_give h31 h (g := .fn) rfl st fun st => F1 n a b .any .any s _ _ (ih n (1 - s) .any a (Nat.le_refl _) (by simp only [Ty.h] at hm ⊢; omega) (fa a)) (ih n s b .any (Nat.le_refl _) (by simp only [Ty.h] at hm ⊢; omega) (fb b)) st
    · rename_i a b c d
      obtain ⟨k1, k2⟩ := and2 hf
      exact F1 (n + 1) a b c d s _ _ (ih (n + 1) (1 - s) c a (Nat.le_succ _) (by simp only [Ty.h] at hm ⊢; omega) (by rw [Ty.fits_comm]; exact k1)) (ih (n + 1) s b d (Nat.le_succ _) (by simp only [Ty.h] at hm ⊢; omega) k2) st
    · rename_i a b
      exact lk_give h31 h (g := .pair) rfl st fun st => F2 n a b .any .any s _ _ (ih n s a .any (Nat.le_refl _) (by simp only [Ty.h] at hm ⊢; omega) (fb a)) (ih n s b .any (Nat.le_refl _) (by simp only [Ty.h] at hm ⊢; omega) (fb b)) st
    · rename_i a b c d
      obtain ⟨k1, k2⟩ := and2 hf
      exact F2 (n + 1) a b c d s _ _ (ih (n + 1) s a c (Nat.le_succ _) (by simp only [Ty.h] at hm ⊢; omega) k1) (ih (n + 1) s b d (Nat.le_succ _) (by simp only [Ty.h] at hm ⊢; omega) k2) st
    · rename_i a
      exact lk_give h31 h (g := .box) rfl st fun st => F3 n a .any s _ _ (ih n (1 - s) .any a (Nat.le_refl _) (by simp only [Ty.h] at hm ⊢; omega) (fa a)) (ih n s a .any (Nat.le_refl _) (by simp only [Ty.h] at hm ⊢; omega) (fb a)) st
    · rename_i a c
      exact F3 (n + 1) a c s _ _ (ih (n + 1) (1 - s) c a (Nat.le_succ _) (by simp only [Ty.h] at hm ⊢; omega) (by rw [Ty.fits_comm]; exact hf)) (ih (n + 1) s a c (Nat.le_succ _) (by simp only [Ty.h] at hm ⊢; omega) hf) st
end
/-! ### the chain -/
def ch1 : Ss := (.cons (.set 5 (.idxOwn 2 (.bin .sub (.lenOwn 2) (.int 1)))) (.cons (.ite (.cmp .eq (.call 4 (.cons (.var 0) (.cons (.int 4) .nil))) (.int 0)) (.cons (.appOwn 2 (.tup (.cons (.str "any") .nil))) .nil) (.cons (.appOwn 2 (.call 30 (.cons (.var 0) (.cons (.var 5) (.cons (.int 2) .nil))))) .nil)) .nil))
def ch2 : Ss := (.cons (.appOwn 4 (.call 36 (.cons (.idxOwn 2 (.var 3)) (.cons (.idxOwn 2 (.bin .add (.var 3) (.int 1))) (.cons (.call 4 (.cons (.var 0) (.cons (.int 50) .nil))) (.cons (.call 4 (.cons (.var 0) (.cons (.int 2) .nil))) .nil)))))) .nil)
/-- types, each of which fits the one before -/
def ChT (L : List Ty) : Prop := (∀ T ∈ L, T.h ≤ 4) ∧ ∀ (i : Nat) (T U : Ty), L[i]? = some T → L[i + 1]? = some U → T.fits U = true
def ChC (L : List Ty) (C : List Ck) : Prop := ∀ (i : Nat) (c : Ck), C[i]? = some c → ∃ T U k s, L[i]? = some T ∧ L[i + 1]? = some U ∧ (0 : Int) ≤ k ∧ k < 50 ∧ (0 : Int) ≤ s ∧ s < 2 ∧ c = Ck.of k s T U
theorem ChT.snoc {L : List Ty} {T U : Ty} (h : ChT (L ++ [T])) (hU : U.h ≤ 4) (hf : T.fits U = true) : ChT (L ++ [T] ++ [U]) := by
  refine ⟨fun V hV => ?_, fun i V W h1 h2 => ?_⟩
  · rcases List.mem_append.mp hV with hV | hV
    · exact h.1 V hV
    · rw [List.mem_singleton.mp hV]; exact hU
  · have hl : (L ++ [T]).length = L.length + 1 := by simp
    rcases Nat.lt_trichotomy (i + 1) (L.length + 1) with q | q | q
    · rw [List.getElem?_append_left (by omega)] at h1 h2
      exact h.2 i V W h1 h2
    · have qi : i = L.length := by omega
      subst qi
      rw [List.getElem?_append_left (by omega), List.getElem?_append_right (Nat.le_refl _)] at h1
      rw [List.getElem?_append_right (by omega)] at h2
      simp at h1 h2
      subst h1
      subst h2
      exact hf
    · rw [List.getElem?_eq_none (by rw [List.length_append]; simp; omega)] at h2
      cases h2
section
variable {P : Prg} {defs : Nat → Option FD} (h4 : defs 4 = some fd4) (h29 : defs 29 = some fd29) (h30 : defs 30 = some fd30) (h31 : defs 31 = some fd31) (h36 : defs 36 = some fd36) (h39 : defs 39 = some fd39)
theorem last_at (L : List Ty) (T : Ty) : atI ((L ++ [T]).map Ty.d) ((((L ++ [T]).map Ty.d).length : Int) - 1) = some T.d := by
  refine atI_of (j := L.length) ?_ ?_
  · rw [List.map_append, List.getElem?_append_right (by simp)]
    simp
  · simp
theorem ck_h (c : Ck) : 1 ≤ c.dp := c.dp_pos
include h4 h29 h30
theorem ch1_turn {mk : CallF} {n : Nat} (hn : 9 ≤ n) {L : List Ty} {T : Ty} {s1 s3 s4 s5 : Slot} {S : Store} (k : Int) (hG : Good S) (hc : ChT (L ++ [T])) (hl : L.length ≤ 1000) :
    ∃ (U : Ty) (S' : Store), Good S' ∧ U.h ≤ 4 ∧ T.fits U = true ∧ turnF true [3] none (exSs P (callF P defs n) mk ch1) (.int k) [.val (.ref 1), s1, .own ((L ++ [T]).map Ty.d), s3, s4, s5] S = some (.nx [.val (.ref 1), s1, .own ((L ++ [T] ++ [U]).map Ty.d), .val (.int k), s4, .val T.d] S') := by
  have hT : T.h ≤ 4 := hc.1 T (by simp)
  have fb : ∀ a : Ty, a.fits .any = true := fun a => by cases a <;> rfl
  have ha := last_at L T
  have hl2 : ((L ++ [T]).map Ty.d).length < 16777216 := by simp; omega
  obtain ⟨n, rfl⟩ : ∃ k, n = k + 1 := ⟨n - 1, by omega⟩
  obtain ⟨r, S1, g1, r0, r9, e1⟩ := take_ok (P := P) (n := n) h4 hG (most := 4) (by decide) (by decide)
  have mp : ∀ U : Ty, (L ++ [T] ++ [U]).map Ty.d = (L ++ [T]).map Ty.d ++ [U.d] := fun U => by simp
  by_cases hr : r = 0
  · refine ⟨.any, S1, g1, by simp [Ty.h], fb _, ?_⟩
    subst hr
    rw [mp]
    generalize (L ++ [T]).map Ty.d = X at ha hl2 ⊢
    simp [runD, exSs, exS, evE, evT, evEs, evL, evI, evIfs, evAnd, evOr, evAndT, evOrT, startD, getV, putV, getO, putVs, putT, wipeE, idxD, sliceD, isAbs, partD, biD, one1, lenD, intD, absD, tupleD, listS, max2D, maxD, maxI, intsD, isTD, tyD, isT, binD, cmpD, isD, n_non, n_tup, n_lst, n_int, n_str, n_bl, truD, lstAt, itemsD, forD, compD, turnF, turnC, kept_none, szOk, rg_nat, rangeL, at0, at1, at2, at3, at4, at5, at6, ix0, ix1, gc_same, gc_len, eq_int, eq_str, eq_bl, str_inj, str_beq, cut1, cut2, lr0, lr1, lr2, lr3, lr4, lr5, lr6, lr7, ch1, turnF, ha, e1, hl2, kept_none, Ty.d]
  · obtain ⟨U, S2, g2, k2, f2, e2⟩ := partner_ok (P := P) h4 h29 h30 2 T 2 (n := n + 1) g1 (by omega) (by omega)
    refine ⟨U, S2, g2, by omega, f2, ?_⟩
    rw [mp]
    generalize (L ++ [T]).map Ty.d = X at ha hl2 ⊢
    simp [runD, exSs, exS, evE, evT, evEs, evL, evI, evIfs, evAnd, evOr, evAndT, evOrT, startD, getV, putV, getO, putVs, putT, wipeE, idxD, sliceD, isAbs, partD, biD, one1, lenD, intD, absD, tupleD, listS, max2D, maxD, maxI, intsD, isTD, tyD, isT, binD, cmpD, isD, n_non, n_tup, n_lst, n_int, n_str, n_bl, truD, lstAt, itemsD, forD, compD, turnF, turnC, kept_none, szOk, rg_nat, rangeL, at0, at1, at2, at3, at4, at5, at6, ix0, ix1, gc_same, gc_len, eq_int, eq_str, eq_bl, str_inj, str_beq, cut1, cut2, lr0, lr1, lr2, lr3, lr4, lr5, lr6, lr7, ch1, turnF, ha, e1, e2, hl2, kept_none, hr]
theorem ch1_loop {mk : CallF} {n : Nat} (hn : 9 ≤ n) : ∀ (l : List Int) {L : List Ty} {T : Ty} {s1 s3 s4 s5 : Slot} {S : Store}, Good S → ChT (L ++ [T]) → L.length + l.length ≤ 1000 →
    ∃ (L' : List Ty) (T' : Ty) (s3' s5' : Slot) (S' : Store), Good S' ∧ ChT (L' ++ [T']) ∧ L'.length = L.length + l.length ∧ forD (turnF true [3] none (exSs P (callF P defs n) mk ch1)) (l.map D.int) [.val (.ref 1), s1, .own ((L ++ [T]).map Ty.d), s3, s4, s5] S = some (.nx [.val (.ref 1), s1, .own ((L' ++ [T']).map Ty.d), s3', s4, s5'] S')
  | [], L, T, s1, s3, s4, s5, S, hG, hc, hl => ⟨L, T, s3, s5, S, hG, hc, rfl, rfl⟩
  | k :: l, L, T, s1, s3, s4, s5, S, hG, hc, hl => by
    obtain ⟨U, S1, g1, hU, hf, e1⟩ := ch1_turn (mk := mk) (P := P) h4 h29 h30 hn (s1 := s1) (s3 := s3) (s4 := s4) (s5 := s5) k hG hc (by simp at hl; omega)
    obtain ⟨L', T', s3', s5', S2, g2, hc2, hl2, e2⟩ := ch1_loop hn l (s1 := s1) (s3 := .val (.int k)) (s4 := s4) (s5 := .val T.d) g1 (hc.snoc hU hf) (by simp at hl ⊢; omega)
    refine ⟨L', T', s3', s5', S2, g2, hc2, by simp at hl2 ⊢; omega, ?_⟩
    show (turnF true [3] none (exSs P (callF P defs n) mk ch1) (.int k) _ S).bind _ = _
    rw [e1]
    exact e2
omit h29 h30
include h31 h36
theorem ch2_turn {mk : CallF} {n : Nat} (hn : 24 ≤ n) {L : List Ty} {C : List Ck} {s1 s3 s5 : Slot} {S : Store} (i : Nat) (hG : Good S) (hc : ChT L) (hC : ChC L C) (hi : C.length = i) (hl : i + 1 < L.length) (hl2 : i ≤ 1000) :
    ∃ (c : Ck) (S' : Store), Good S' ∧ ChC L (C ++ [c]) ∧ turnF true [3] none (exSs P (callF P defs n) mk ch2) (.int i) [.val (.ref 1), s1, .own (L.map Ty.d), s3, .own (C.map Ck.d), s5] S = some (.nx [.val (.ref 1), s1, .own (L.map Ty.d), .val (.int i), .own ((C ++ [c]).map Ck.d), s5] S') := by
  obtain ⟨n, rfl⟩ : ∃ k, n = k + 1 := ⟨n - 1, by omega⟩
  obtain ⟨r, S1, g1, r0, r9, e1⟩ := take_ok (P := P) (n := n) h4 hG (most := 50) (by decide) (by decide)
  obtain ⟨s, S2, g2, q0, q9, e2⟩ := take_ok (P := P) (n := n) h4 g1 (most := 2) (by decide) (by decide)
  have hT := List.getElem?_eq_getElem (show i < L.length by omega)
  have hU := List.getElem?_eq_getElem hl
  generalize L[i] = T at hT
  generalize L[i + 1] = U at hU
  have hf := hc.2 i T U hT hU
  have h1 := hc.1 T (List.mem_of_getElem? hT)
  have h2 := hc.1 U (List.mem_of_getElem? hU)
  have e3 := lck_run (P := P) h31 h36 r 8 (n + 1) s T U S2 (by omega) (by omega) hf
  have a1 : atI (L.map Ty.d) (i : Int) = some T.d := atI_of (j := i) (by rw [List.getElem?_map, hT] <;> rfl) rfl
  have a2 : atI (L.map Ty.d) ((i : Int) + 1) = some U.d := atI_of (j := i + 1) (by rw [List.getElem?_map, hU] <;> rfl) (by omega)
  have hz : (C.map Ck.d).length < 16777216 := by simp; omega
  refine ⟨Ck.of r s T U, S2, g2, fun j c hj => ?_, ?_⟩
  · by_cases q : j < C.length
    · rw [List.getElem?_append_left q] at hj
      exact hC j c hj
    · have qj : j = i := by
        have := (List.getElem?_eq_some_iff.mp hj).1
        simp at this
        omega
      subst qj
      rw [List.getElem?_append_right (by omega), hi] at hj
      simp at hj
      exact ⟨T, U, r, s, hT, hU, r0, r9, q0, q9, hj.symm⟩
  · rw [show (C ++ [Ck.of r s T U]).map Ck.d = C.map Ck.d ++ [(Ck.of r s T U).d] by simp]
    generalize L.map Ty.d = X at a1 a2 ⊢
    generalize C.map Ck.d = Y at hz ⊢
    simp [runD, exSs, exS, evE, evT, evEs, evL, evI, evIfs, evAnd, evOr, evAndT, evOrT, startD, getV, putV, getO, putVs, putT, wipeE, idxD, sliceD, isAbs, partD, biD, one1, lenD, intD, absD, tupleD, listS, max2D, maxD, maxI, intsD, isTD, tyD, isT, binD, cmpD, isD, n_non, n_tup, n_lst, n_int, n_str, n_bl, truD, lstAt, itemsD, forD, compD, turnF, turnC, kept_none, szOk, rg_nat, rangeL, at0, at1, at2, at3, at4, at5, at6, ix0, ix1, gc_same, gc_len, eq_int, eq_str, eq_bl, str_inj, str_beq, cut1, cut2, lr0, lr1, lr2, lr3, lr4, lr5, lr6, lr7, ch2, turnF, a1, a2, e1, e2, e3, hz, kept_none]
theorem ch2_loop {mk : CallF} {n : Nat} (hn : 24 ≤ n) {L : List Ty} (hc : ChT L) (hL : L.length ≤ 1000) : ∀ (m i : Nat) {C : List Ck} {s1 s3 s5 : Slot} {S : Store}, Good S → ChC L C → C.length = i → i + m + 1 ≤ L.length →
    ∃ (C' : List Ck) (s3' : Slot) (S' : Store), Good S' ∧ ChC L C' ∧ C'.length = i + m ∧ forD (turnF true [3] none (exSs P (callF P defs n) mk ch2)) ((List.range' i m).map fun j => D.int (j : Nat)) [.val (.ref 1), s1, .own (L.map Ty.d), s3, .own (C.map Ck.d), s5] S = some (.nx [.val (.ref 1), s1, .own (L.map Ty.d), s3', .own (C'.map Ck.d), s5] S')
  | 0, i, C, s1, s3, s5, S, hG, hC, hi, hm => ⟨C, s3, S, hG, hC, hi, rfl⟩
  | m + 1, i, C, s1, s3, s5, S, hG, hC, hi, hm => by
    obtain ⟨c, S1, g1, hC1, e1⟩ := ch2_turn (mk := mk) (P := P) h4 h31 h36 hn (s1 := s1) (s3 := s3) (s5 := s5) i hG hc hC hi (by omega) (by omega)
    obtain ⟨C', s3', S2, g2, hC2, hl2, e2⟩ := ch2_loop hn hc hL m (i + 1) (s1 := s1) (s3 := .val (.int i)) (s5 := s5) g1 hC1 (by simp; omega) (by omega)
    refine ⟨C', s3', S2, g2, hC2, by omega, ?_⟩
    show (turnF true [3] none (exSs P (callF P defs n) mk ch2) (.int i) _ S).bind _ = _
    rw [e1]
    exact e2
end
end HN

set_option maxHeartbeats 0
/-! The chain of types and checks, whole. -/
namespace HN
open PySem L2
theorem exSs_nx {P : Prg} {c m : CallF} {s : St} {ss : Ss} {ρ ρ1 : HN.Env} {S S1 : Store} (h : exS P c m s ρ S = some (.nx ρ1 S1)) : exSs P c m (.cons s ss) ρ S = exSs P c m ss ρ1 S1 := by
  show (exS P c m s ρ S).bind _ = _
  rw [h] <;> rfl
theorem runD_len {P : Prg} {c m : CallF} {fd : FD} {ds : List D} {S S1 : Store} {d : D} (hp : ds.length = fd.params) (h : exSs P c m fd.body (startD fd.slots ds) S = some (.rt d S1)) (hl : S1.length = S.length) : runD P c m fd ds S = some (d, S1) := by
  unfold runD
  rw [if_pos hp, h]
  show some (gcD S (d, S1)) = _
  rw [gc_len hl]
theorem evI_r1 {P : Prg} {c m : CallF} {a : E} {ρ : HN.Env} {S S1 : Store} {n : Int} (h : evE P c m a ρ S = some (.int n, S1)) (hr : rgOk 0 n = true) : evI P c m (.range1 a) ρ S = some ((rangeL 0 n, none), S1) := by
  have e : evI P c m (.range1 a) ρ S = (evE P c m a ρ S).bind fun x => match x with
    | (.int n, S1) => if rgOk 0 n then some ((rangeL 0 n, none), S1) else none
    | _ => none := by simp only [evI] <;> rfl
  rw [e, h]
  simp only [Option.bind_some]
  rw [if_pos hr]
section
variable {P : Prg} {defs : Nat → Option FD} (h4 : defs 4 = some fd4) (h29 : defs 29 = some fd29) (h30 : defs 30 = some fd30) (h31 : defs 31 = some fd31) (h36 : defs 36 = some fd36) (h39 : defs 39 = some fd39)
include h4 h29 h30 h31 h36 h39
theorem chain_ok {n : Nat} {S : Store} (hG : Good S) (m : Nat) (hm : m ≤ 100) (hn : 24 ≤ n) : ∃ (L : List Ty) (C : List Ck) (S' : Store), Good S' ∧ ChT L ∧ ChC L C ∧ L.length = m + 1 ∧ C.length = m ∧ callF P defs (n + 1) 39 [.ref 1, .int m] S = some (.tup [.lst (L.map Ty.d), .lst (C.map Ck.d)], S') := by
  obtain ⟨n, rfl⟩ : ∃ k, n = k + 1 := ⟨n - 1, by omega⟩
  obtain ⟨r, S1, g1, r0, r9, e1⟩ := take_ok (P := P) (n := n) h4 hG (most := 3) (by decide) (by decide)
  obtain ⟨T0, S2, g2, k2, e2⟩ := type29_ok (P := P) h4 h29 3 (1 + r) (n := n + 1) g1 (by omega) (by omega)
  have c0 : ChT ([] ++ [T0]) := ⟨fun T hT => by simp at hT; subst hT; omega, fun i T U h1 h2 => by simp at h2⟩
  have hr : rgOk 0 (m : Int) = true := rg_nat (by decide) (by decide) (by omega) (by omega)
  have rl1 : rangeL 0 (m : Int) = ((List.range m).map fun i => ((i : Nat) : Int)).map D.int := by
    unfold rangeL
    rw [List.map_map]
    simp
  have rl2 : rangeL 0 (m : Int) = (List.range' 0 m).map fun j => D.int (j : Nat) := by
    rw [← List.range_eq_range']
    unfold rangeL
    simp
  obtain ⟨L, T, s3, s5, S3, g3, c3, hl3, e3⟩ := ch1_loop (mk := (callP P defs (n + 1)).2) (P := P) h4 h29 h30 (n := n + 1) (by omega) ((List.range m).map fun i => ((i : Nat) : Int)) (s1 := .val (.int m)) (s3 := .un) (s4 := .un) (s5 := .un) g2 c0 (by simp; omega)
  rw [← rl1] at e3
  have hl3 : L.length = m := by simpa using hl3
  obtain ⟨C, s3', S4, g4, cC, hC, e4⟩ := ch2_loop (mk := (callP P defs (n + 1)).2) (P := P) h4 h31 h36 (n := n + 1) (by omega) c3 (by simp; omega) m 0 (C := []) (s1 := .val (.int m)) (s3 := s3) (s5 := s5) g3 (fun i c h => by simp at h) rfl (by simp; omega)
  rw [← rl2] at e4
  refine ⟨L ++ [T], C, S4, g4, c3, cC, by simp; omega, by omega, ?_⟩
  have b39' : b39 = .cons (.setOwn 2 (.disp (.cons (.call 29 (.cons (.var 0) (.cons (.bin .add (.int 1) (.call 4 (.cons (.var 0) (.cons (.int 3) .nil)))) .nil))) .nil))) (.cons (.forS [3] true (.range1 (.var 1)) ch1) (.cons (.setOwn 4 (.disp .nil)) (.cons (.forS [3] true (.range1 (.var 1)) ch2) (.cons (.freeze 4) (.cons (.freeze 2) (.cons (.ret (.tup (.cons (.var 2) (.cons (.var 4) .nil)))) .nil)))))) := rfl
  have l0 := hG.len
  have l4 := g4.len
  have e3' : forD (turnF true [3] none (exSs P (callF P defs (n + 1)) (callP P defs (n + 1)).2 ch1)) (rangeL 0 (m : Int)) [.val (.ref 1), .val (.int m), .own [T0.d], .un, .un, .un] S2 = some (.nx [.val (.ref 1), .val (.int m), .own ((L ++ [T]).map Ty.d), s3, .un, s5] S3) := e3
  have e4' : forD (turnF true [3] none (exSs P (callF P defs (n + 1)) (callP P defs (n + 1)).2 ch2)) (rangeL 0 (m : Int)) [.val (.ref 1), .val (.int m), .own ((L ++ [T]).map Ty.d), s3, .own [], s5] S3 = some (.nx [.val (.ref 1), .val (.int m), .own ((L ++ [T]).map Ty.d), s3', .own (C.map Ck.d), s5] S4) := e4
  generalize (L ++ [T]).map Ty.d = X at e3' e4' ⊢
  generalize C.map Ck.d = Y at e4' ⊢
  rw [callF_on h39]
  refine runD_len rfl ?_ (by rw [l4, l0])
  show exSs P _ _ b39 [.val (.ref 1), .val (.int m), .un, .un, .un, .un] S = _
  rw [b39']
  rw [exSs_nx (ρ1 := [.val (.ref 1), .val (.int m), .own [T0.d], .un, .un, .un]) (S1 := S2) (by simp [exS, evL, evEs, evE, getV, binD, szOk, e1, e2])]
  rw [exSs_nx (ρ1 := [.val (.ref 1), .val (.int m), .own X, s3, .un, s5]) (S1 := S3) (by
    have ev : evI P (callF P defs (n + 1)) (callP P defs (n + 1)).2 (.range1 (.var 1)) [.val (.ref 1), .val (.int m), .own [T0.d], .un, .un, .un] S2 = some ((rangeL 0 (m : Int), none), S2) := evI_r1 (by simp [evE, getV]) hr
    simp only [exS, ev, Option.bind_some, e3'])]
  rw [exSs_nx (ρ1 := [.val (.ref 1), .val (.int m), .own X, s3, .own [], s5]) (S1 := S3) (by simp [exS, evL, evEs, szOk])]
  rw [exSs_nx (ρ1 := [.val (.ref 1), .val (.int m), .own X, s3', .own Y, s5]) (S1 := S4) (by
    have ev : evI P (callF P defs (n + 1)) (callP P defs (n + 1)).2 (.range1 (.var 1)) [.val (.ref 1), .val (.int m), .own X, s3, .own [], s5] S3 = some ((rangeL 0 (m : Int), none), S3) := evI_r1 (by simp [evE, getV]) hr
    simp only [exS, ev, Option.bind_some, e4'])]
  simp [exSs, exS, evEs, evE, getV, getO, putV, szOk]
end
end HN

set_option maxHeartbeats 0
/-! Checks: sizes, heights, labels each once. -/
namespace HN
open PySem L2
/-- check_size -/
def b42 : Ss := (.cons (.ret (.bin .add (.int 1) (.bi .sum (.cons (.frz (.comp [1] true (.e (.call 34 (.cons (.var 0) .nil))) .nil (.call 42 (.cons (.var 1) .nil)))) .nil)))) .nil)
abbrev fd42 : FD := ⟨1, 2, b42⟩
/-- check_height -/
def b43 : Ss := (.cons (.set 1 (.isi .max0 (.frz (.comp [2] true (.e (.call 34 (.cons (.var 0) .nil))) .nil (.call 43 (.cons (.var 2) .nil)))))) (.cons (.ite (.cmp .isIn (.idx (.var 0) (.int 0)) (.tup (.cons (.str "give") (.cons (.str "take") .nil)))) (.cons (.ret (.var 1)) .nil) .nil) (.cons (.ret (.bin .add (.int 1) (.var 1))) .nil)))
abbrev fd43 : FD := ⟨1, 3, b43⟩
/-- _law_inner -/
def b53 : Ss := (.cons (.ite (.cmp .isIn (.idx (.var 0) (.int 0)) (.frz (.disp (.cons (.str "fun") (.cons (.str "pair") (.cons (.str "box") .nil)))))) (.cons (.ret (.frz (.disp (.cons (.idx (.var 0) (.int 1)) (.cons (.idx (.var 0) (.int 2)) .nil))))) .nil) .nil) (.cons (.ite (.cmp .eq (.idx (.var 0) (.int 0)) (.str "give")) (.cons (.ret (.frz (.disp (.cons (.idx (.var 0) (.int 1)) .nil)))) .nil) .nil) (.cons (.ite (.cmp .eq (.idx (.var 0) (.int 0)) (.str "take")) (.cons (.ret (.frz (.disp (.cons (.idx (.var 0) (.int 3)) .nil)))) .nil) .nil) (.cons (.ret (.frz (.disp .nil))) .nil))))
abbrev fd53 : FD := ⟨1, 1, b53⟩
/-- _law_size -/
def b54 : Ss := (.cons (.ret (.bin .add (.int 1) (.bi .sum (.cons (.frz (.comp [1] true (.e (.call 53 (.cons (.var 0) .nil))) .nil (.call 54 (.cons (.var 1) .nil)))) .nil)))) .nil)
abbrev fd54 : FD := ⟨1, 2, b54⟩
/-- _law_depth -/
def b55 : Ss := (.cons (.set 1 (.isi .max0 (.frz (.comp [2] true (.e (.call 53 (.cons (.var 0) .nil))) .nil (.call 55 (.cons (.var 2) .nil)))))) (.cons (.ret (.bin .add (.var 1) (.bi .int (.cons (.cmp .notIn (.idx (.var 0) (.int 0)) (.frz (.disp (.cons (.str "give") (.cons (.str "take") .nil))))) .nil)))) .nil))
abbrev fd55 : FD := ⟨1, 3, b55⟩
/-- _law_labels -/
def b56 : Ss := (.cons (.setOwn 1 (.disp .nil)) (.cons (.ite (.or (.cons (.cmp .eq (.idx (.var 0) (.int 0)) (.str "take")) (.cons (.cmp .eq (.idx (.var 0) (.int 0)) (.str "fail")) .nil))) (.cons (.appOwn 1 (.idx (.var 0) (.int 2))) .nil) .nil) (.cons (.freeze 1) (.cons (.forS [2] true (.e (.call 53 (.cons (.var 0) .nil))) (.cons (.set 1 (.bin .add (.var 1) (.frz (.comp [3] true (.e (.call 56 (.cons (.var 2) .nil))) (.cons (.cmp .notIn (.var 3) (.var 1)) .nil) (.var 3))))) .nil)) (.cons (.ret (.var 1)) .nil)))))
abbrev fd56 : FD := ⟨1, 4, b56⟩
def Ck.sz : Ck → Nat
  | .any => 1
  | .same _ => 1
  | .fn a b => a.sz + b.sz + 1
  | .pair a b => a.sz + b.sz + 1
  | .box a b => a.sz + b.sz + 1
  | .give c => c.sz + 1
  | .take _ _ _ c => c.sz + 1
  | .fail _ _ _ _ => 1
theorem Ck.sz_le : ∀ (c : Ck) (S T : Ty), c.ok S T → c.sz + 3 ≤ 3 * 2 ^ c.ht ∧ (S ≠ .any → c.sz + 4 ≤ 3 * 2 ^ c.ht) ∧ (∀ k, c.pg = some k → c.sz + 5 ≤ 3 * 2 ^ c.ht)
  | .any, S, T, h => ⟨by simp [Ck.sz, Ck.ht], fun q => absurd h.1 q, fun k q => by cases q⟩
  | .same k, S, T, h => ⟨by simp [Ck.sz, Ck.ht], fun _ => by simp [Ck.sz, Ck.ht], fun _ _ => by simp [Ck.sz, Ck.ht]⟩
  | .fail _ _ _ _, S, T, h => ⟨by simp [Ck.sz, Ck.ht], fun _ => by simp [Ck.sz, Ck.ht], fun k q => by cases q⟩
  | .fn a b, S, T, h => by
    obtain ⟨A, B, C, E, _, _, ha, hb⟩ := h
    have z1 := (Ck.sz_le a _ _ ha).1
    have z2 := (Ck.sz_le b _ _ hb).1
    have y1 : 2 ^ a.ht ≤ 2 ^ max a.ht b.ht := Nat.pow_le_pow_right (by decide) (Nat.le_max_left _ _)
    have y2 : 2 ^ b.ht ≤ 2 ^ max a.ht b.ht := Nat.pow_le_pow_right (by decide) (Nat.le_max_right _ _)
    simp only [Ck.sz, Ck.ht, Nat.pow_succ]
    exact ⟨by omega, fun _ => by omega, fun _ _ => by omega⟩
  | .pair a b, S, T, h => by
    obtain ⟨A, B, C, E, _, _, ha, hb⟩ := h
    have z1 := (Ck.sz_le a _ _ ha).1
    have z2 := (Ck.sz_le b _ _ hb).1
    have y1 : 2 ^ a.ht ≤ 2 ^ max a.ht b.ht := Nat.pow_le_pow_right (by decide) (Nat.le_max_left _ _)
    have y2 : 2 ^ b.ht ≤ 2 ^ max a.ht b.ht := Nat.pow_le_pow_right (by decide) (Nat.le_max_right _ _)
    simp only [Ck.sz, Ck.ht, Nat.pow_succ]
    exact ⟨by omega, fun _ => by omega, fun _ _ => by omega⟩
  | .box a b, S, T, h => by
    obtain ⟨A, C, _, _, ha, hb⟩ := h
    have z1 := (Ck.sz_le a _ _ ha).1
    have z2 := (Ck.sz_le b _ _ hb).1
    have y1 : 2 ^ a.ht ≤ 2 ^ max a.ht b.ht := Nat.pow_le_pow_right (by decide) (Nat.le_max_left _ _)
    have y2 : 2 ^ b.ht ≤ 2 ^ max a.ht b.ht := Nat.pow_le_pow_right (by decide) (Nat.le_max_right _ _)
    simp only [Ck.sz, Ck.ht, Nat.pow_succ]
    exact ⟨by omega, fun _ => by omega, fun _ _ => by omega⟩
  | .give c, S, T, h => by
    obtain ⟨_, k, _, hp, hc⟩ := h
    have z := (Ck.sz_le c _ _ hc).2.2 k hp
    simp only [Ck.sz, Ck.ht]
    exact ⟨by omega, fun _ => by omega, fun _ q => by cases q⟩
  | .take k _ _ c, S, T, h => by
    have z := (Ck.sz_le c _ _ h.2).2.1 fun q => base_ne q
    simp only [Ck.sz, Ck.ht]
    exact ⟨by omega, fun q => absurd h.1 q, fun _ q => by cases q⟩
/-- the labels, each once, as the law finds them -/
def more (f l : List (Int × Int)) : List (Int × Int) := f ++ l.filter fun x => !f.contains x
def Ck.ul : Ck → List (Int × Int)
  | .any => []
  | .same _ => []
  | .fn a b => more (more [] a.ul) b.ul
  | .pair a b => more (more [] a.ul) b.ul
  | .box a b => more (more [] a.ul) b.ul
  | .give c => more [] c.ul
  | .take _ n s c => more [(n, s)] c.ul
  | .fail _ n s _ => [(n, s)]
theorem mem_more {f l : List (Int × Int)} {x : Int × Int} : x ∈ more f l ↔ x ∈ f ∨ x ∈ l := by
  unfold more
  rw [List.mem_append, List.mem_filter]
  by_cases h : x ∈ f <;> simp [h]
theorem Ck.mem_ul (x : Int × Int) : ∀ c : Ck, x ∈ c.ul ↔ x ∈ c.labs
  | .any => Iff.rfl
  | .same _ => Iff.rfl
  | .fn a b => by simp [Ck.ul, Ck.labs, mem_more, Ck.mem_ul x a, Ck.mem_ul x b]
  | .pair a b => by simp [Ck.ul, Ck.labs, mem_more, Ck.mem_ul x a, Ck.mem_ul x b]
  | .box a b => by simp [Ck.ul, Ck.labs, mem_more, Ck.mem_ul x a, Ck.mem_ul x b]
  | .give c => by simp [Ck.ul, Ck.labs, mem_more, Ck.mem_ul x c]
  | .take _ n s c => by simp [Ck.ul, Ck.labs, mem_more, Ck.mem_ul x c]
  | .fail _ n s _ => Iff.rfl
theorem more_len (f l : List (Int × Int)) : (more f l).length ≤ f.length + l.length := by
  unfold more
  rw [List.length_append]
  have := List.length_filter_le (fun x => !f.contains x) l
  omega
theorem Ck.ul_len : ∀ c : Ck, c.ul.length ≤ c.sz
  | .any => by simp [Ck.ul]
  | .same _ => by simp [Ck.ul]
  | .fn a b => by
    have h1 := Ck.ul_len a
    have h2 := Ck.ul_len b
    have h3 := more_len [] a.ul
    have h4 := more_len (more [] a.ul) b.ul
    simp only [Ck.ul, Ck.sz, List.length_nil] at h3 ⊢; omega
  | .pair a b => by
    have h1 := Ck.ul_len a
    have h2 := Ck.ul_len b
    have h3 := more_len [] a.ul
    have h4 := more_len (more [] a.ul) b.ul
    simp only [Ck.ul, Ck.sz, List.length_nil] at h3 ⊢; omega
  | .box a b => by
    have h1 := Ck.ul_len a
    have h2 := Ck.ul_len b
    have h3 := more_len [] a.ul
    have h4 := more_len (more [] a.ul) b.ul
    simp only [Ck.ul, Ck.sz, List.length_nil] at h3 ⊢; omega
  | .give c => by
    have h1 := Ck.ul_len c
    have h3 := more_len [] c.ul
    simp only [Ck.ul, Ck.sz, List.length_nil] at h3 ⊢; omega
  | .take _ n s c => by
    have h1 := Ck.ul_len c
    have h3 := more_len [(n, s)] c.ul
    simp only [Ck.ul, Ck.sz, List.length_cons, List.length_nil] at h3 ⊢; omega
  | .fail _ n s _ => by simp [Ck.ul, Ck.sz]
theorem Ck.labs_joinN (x : Int × Int) : ∀ (m : Nat) (c d : Ck), c.dp + d.dp ≤ m → x ∈ (c.join d).labs → x ∈ c.labs ∨ x ∈ d.labs
  | 0, c, d, hn, _ => by have := c.dp_pos; omega
  | m + 1, c, d, hn, h => by
    cases c with
    | any => rw [Ck.join] at h; exact .inr h
    | fail k n s k' => rw [Ck.join] at h; exact .inl h
    | take k n s c =>
      rw [Ck.join] at h
      simp only [Ck.labs, List.mem_cons] at h ⊢
      rcases h with h | h
      · exact .inl (.inl h)
      · rcases Ck.labs_joinN x m c d (by simp only [Ck.dp] at hn; omega) h with h | h
        · exact .inl (.inr h)
        · exact .inr h
    | give c =>
      cases d with
      | take k n s d =>
        rw [Ck.join] at h
        split at h
        · simp only [Ck.labs, List.mem_cons]
          rcases Ck.labs_joinN x m c d (by simp only [Ck.dp] at hn; omega) h with h | h
          · exact .inl h
          · exact .inr (.inr h)
        · simp only [Ck.labs, List.mem_cons, List.not_mem_nil, or_false] at h ⊢
          exact .inr (.inl h)
      | _ => simp only [Ck.join] at h; exact .inl h
    | same k =>
      cases d <;> simp only [Ck.join] at h <;> first | exact .inl h | exact .inr h
    | fn a b =>
      cases d with
      | fn c d =>
        simp only [Ck.join, Ck.labs, List.mem_append] at h ⊢
        simp only [Ck.dp] at hn
        rcases h with h | h
        · rcases Ck.labs_joinN x m c a (by omega) h with h | h <;> simp [h]
        · rcases Ck.labs_joinN x m b d (by omega) h with h | h <;> simp [h]
      | give c =>
        cases c with
        | fn c d =>
          simp only [Ck.join, Ck.labs, List.mem_append] at h ⊢
          simp only [Ck.dp] at hn
          rcases h with h | h
          · rcases Ck.labs_joinN x m c a (by omega) h with h | h <;> simp [h]
          · rcases Ck.labs_joinN x m b d (by omega) h with h | h <;> simp [h]
        | _ => simp only [Ck.join] at h; exact .inl h
      | fail k n s k' => simp only [Ck.join] at h; exact .inr h
      | _ => simp only [Ck.join] at h; exact .inl h
    | pair a b =>
      cases d with
      | pair c d =>
        simp only [Ck.join, Ck.labs, List.mem_append] at h ⊢
        simp only [Ck.dp] at hn
        rcases h with h | h
        · rcases Ck.labs_joinN x m a c (by omega) h with h | h <;> simp [h]
        · rcases Ck.labs_joinN x m b d (by omega) h with h | h <;> simp [h]
      | give c =>
        cases c with
        | pair c d =>
          simp only [Ck.join, Ck.labs, List.mem_append] at h ⊢
          simp only [Ck.dp] at hn
          rcases h with h | h
          · rcases Ck.labs_joinN x m a c (by omega) h with h | h <;> simp [h]
          · rcases Ck.labs_joinN x m b d (by omega) h with h | h <;> simp [h]
        | _ => simp only [Ck.join] at h; exact .inl h
      | fail k n s k' => simp only [Ck.join] at h; exact .inr h
      | _ => simp only [Ck.join] at h; exact .inl h
    | box a b =>
      cases d with
      | box c d =>
        simp only [Ck.join, Ck.labs, List.mem_append] at h ⊢
        simp only [Ck.dp] at hn
        rcases h with h | h
        · rcases Ck.labs_joinN x m c a (by omega) h with h | h <;> simp [h]
        · rcases Ck.labs_joinN x m b d (by omega) h with h | h <;> simp [h]
      | give c =>
        cases c with
        | box c d =>
          simp only [Ck.join, Ck.labs, List.mem_append] at h ⊢
          simp only [Ck.dp] at hn
          rcases h with h | h
          · rcases Ck.labs_joinN x m c a (by omega) h with h | h <;> simp [h]
          · rcases Ck.labs_joinN x m b d (by omega) h with h | h <;> simp [h]
        | _ => simp only [Ck.join] at h; exact .inl h
      | fail k n s k' => simp only [Ck.join] at h; exact .inr h
      | _ => simp only [Ck.join] at h; exact .inl h
theorem Ck.labs_join {c d : Ck} {x : Int × Int} (h : x ∈ (c.join d).labs) : x ∈ c.labs ∨ x ∈ d.labs := Ck.labs_joinN x _ c d (Nat.le_refl _) h
section
variable {P : Prg} {defs : Nat → Option FD}
theorem in2b (s : String) : inD (.str s) [.str "give", .str "take"] = some (decide (s = "give") || decide (s = "take")) := by
  simp [inD, D.data, D.dataL, D.dep, D.depL, D.eqv, str_beq, eq_comm]
theorem linner_run (h : defs 53 = some fd53) (c : Ck) {n : Nat} (S : Store) : callF P defs (n + 1) 53 [c.d] S = some (.lst (c.inner.map Ck.d), S) := by
  rw [callF_on h]
  cases c <;> simp [runD, exSs, exS, evE, evT, evEs, evL, evI, evIfs, evAnd, evOr, evAndT, evOrT, startD, getV, putV, getO, putVs, putT, wipeE, idxD, sliceD, isAbs, partD, biD, one1, lenD, intD, absD, tupleD, listS, max2D, maxD, maxI, intsD, isTD, tyD, isT, binD, cmpD, isD, n_non, n_tup, n_lst, n_int, n_str, n_bl, truD, lstAt, itemsD, forD, compD, turnF, turnC, kept_none, szOk, rg_nat, rangeL, at0, at1, at2, at3, at4, at5, at6, ix0, ix1, gc_same, gc_len, eq_int, eq_str, eq_bl, str_inj, str_beq, cut1, cut2, lr0, lr1, lr2, lr3, lr4, lr5, lr6, lr7, b53, Ck.d, Ck.inner, inF]
theorem size_run (hc : P.glob 2 = some (.tup [.str "fun", .str "pair", .str "box"])) (h34 : defs 34 = some fd34) (h : defs 42 = some fd42) : ∀ (c : Ck) {n : Nat} (S : Store), c.dp + 1 ≤ n → callF P defs n 42 [c.d] S = some (.int c.sz, S)
  | c, 0, S, hn => by omega
  | c, 1, S, hn => by have := c.dp_pos; omega
  | c, n + 2, S, hn => by
    have ei := inner_run (P := P) hc h34 c (n := n) S
    rw [callF_on h]
    cases c with
    | any => simp only [Ck.d, Ck.inner] at ei ⊢; simp [runD, exSs, exS, evE, evT, evEs, evL, evI, evIfs, evAnd, evOr, evAndT, evOrT, startD, getV, putV, getO, putVs, putT, wipeE, idxD, sliceD, isAbs, partD, biD, one1, lenD, intD, absD, tupleD, listS, max2D, maxD, maxI, intsD, isTD, tyD, isT, binD, cmpD, isD, n_non, n_tup, n_lst, n_int, n_str, n_bl, truD, lstAt, itemsD, forD, compD, turnF, turnC, kept_none, szOk, rg_nat, rangeL, at0, at1, at2, at3, at4, at5, at6, ix0, ix1, gc_same, gc_len, eq_int, eq_str, eq_bl, str_inj, str_beq, cut1, cut2, lr0, lr1, lr2, lr3, lr4, lr5, lr6, lr7, b42, sumD, ei, Ck.sz]
    | same k => simp only [Ck.d, Ck.inner] at ei ⊢; simp [runD, exSs, exS, evE, evT, evEs, evL, evI, evIfs, evAnd, evOr, evAndT, evOrT, startD, getV, putV, getO, putVs, putT, wipeE, idxD, sliceD, isAbs, partD, biD, one1, lenD, intD, absD, tupleD, listS, max2D, maxD, maxI, intsD, isTD, tyD, isT, binD, cmpD, isD, n_non, n_tup, n_lst, n_int, n_str, n_bl, truD, lstAt, itemsD, forD, compD, turnF, turnC, kept_none, szOk, rg_nat, rangeL, at0, at1, at2, at3, at4, at5, at6, ix0, ix1, gc_same, gc_len, eq_int, eq_str, eq_bl, str_inj, str_beq, cut1, cut2, lr0, lr1, lr2, lr3, lr4, lr5, lr6, lr7, b42, sumD, ei, Ck.sz]
    | fail k q s k' => simp only [Ck.d, Ck.inner] at ei ⊢; simp [runD, exSs, exS, evE, evT, evEs, evL, evI, evIfs, evAnd, evOr, evAndT, evOrT, startD, getV, putV, getO, putVs, putT, wipeE, idxD, sliceD, isAbs, partD, biD, one1, lenD, intD, absD, tupleD, listS, max2D, maxD, maxI, intsD, isTD, tyD, isT, binD, cmpD, isD, n_non, n_tup, n_lst, n_int, n_str, n_bl, truD, lstAt, itemsD, forD, compD, turnF, turnC, kept_none, szOk, rg_nat, rangeL, at0, at1, at2, at3, at4, at5, at6, ix0, ix1, gc_same, gc_len, eq_int, eq_str, eq_bl, str_inj, str_beq, cut1, cut2, lr0, lr1, lr2, lr3, lr4, lr5, lr6, lr7, b42, sumD, ei, Ck.sz]
    | give c =>
      have e1 := size_run hc h34 h c (n := n + 1) S (by simp only [Ck.dp] at hn; omega)
      simp only [Ck.d, Ck.inner] at ei ⊢
      simp [runD, exSs, exS, evE, evT, evEs, evL, evI, evIfs, evAnd, evOr, evAndT, evOrT, startD, getV, putV, getO, putVs, putT, wipeE, idxD, sliceD, isAbs, partD, biD, one1, lenD, intD, absD, tupleD, listS, max2D, maxD, maxI, intsD, isTD, tyD, isT, binD, cmpD, isD, n_non, n_tup, n_lst, n_int, n_str, n_bl, truD, lstAt, itemsD, forD, compD, turnF, turnC, kept_none, szOk, rg_nat, rangeL, at0, at1, at2, at3, at4, at5, at6, ix0, ix1, gc_same, gc_len, eq_int, eq_str, eq_bl, str_inj, str_beq, cut1, cut2, lr0, lr1, lr2, lr3, lr4, lr5, lr6, lr7, b42, sumD, ei, e1, Ck.sz]
      try omega
    | take k q s c =>
      have e1 := size_run hc h34 h c (n := n + 1) S (by simp only [Ck.dp] at hn; omega)
      simp only [Ck.d, Ck.inner] at ei ⊢
      simp [runD, exSs, exS, evE, evT, evEs, evL, evI, evIfs, evAnd, evOr, evAndT, evOrT, startD, getV, putV, getO, putVs, putT, wipeE, idxD, sliceD, isAbs, partD, biD, one1, lenD, intD, absD, tupleD, listS, max2D, maxD, maxI, intsD, isTD, tyD, isT, binD, cmpD, isD, n_non, n_tup, n_lst, n_int, n_str, n_bl, truD, lstAt, itemsD, forD, compD, turnF, turnC, kept_none, szOk, rg_nat, rangeL, at0, at1, at2, at3, at4, at5, at6, ix0, ix1, gc_same, gc_len, eq_int, eq_str, eq_bl, str_inj, str_beq, cut1, cut2, lr0, lr1, lr2, lr3, lr4, lr5, lr6, lr7, b42, sumD, ei, e1, Ck.sz]
      try omega
    | fn a b =>
      have e1 := size_run hc h34 h a (n := n + 1) S (by simp only [Ck.dp] at hn; omega)
      have e2 := size_run hc h34 h b (n := n + 1) S (by simp only [Ck.dp] at hn; omega)
      simp only [Ck.d, Ck.inner] at ei ⊢
      simp [runD, exSs, exS, evE, evT, evEs, evL, evI, evIfs, evAnd, evOr, evAndT, evOrT, startD, getV, putV, getO, putVs, putT, wipeE, idxD, sliceD, isAbs, partD, biD, one1, lenD, intD, absD, tupleD, listS, max2D, maxD, maxI, intsD, isTD, tyD, isT, binD, cmpD, isD, n_non, n_tup, n_lst, n_int, n_str, n_bl, truD, lstAt, itemsD, forD, compD, turnF, turnC, kept_none, szOk, rg_nat, rangeL, at0, at1, at2, at3, at4, at5, at6, ix0, ix1, gc_same, gc_len, eq_int, eq_str, eq_bl, str_inj, str_beq, cut1, cut2, lr0, lr1, lr2, lr3, lr4, lr5, lr6, lr7, b42, sumD, ei, e1, e2, Ck.sz]
      try omega
    | pair a b =>
      have e1 := size_run hc h34 h a (n := n + 1) S (by simp only [Ck.dp] at hn; omega)
      have e2 := size_run hc h34 h b (n := n + 1) S (by simp only [Ck.dp] at hn; omega)
      simp only [Ck.d, Ck.inner] at ei ⊢
      simp [runD, exSs, exS, evE, evT, evEs, evL, evI, evIfs, evAnd, evOr, evAndT, evOrT, startD, getV, putV, getO, putVs, putT, wipeE, idxD, sliceD, isAbs, partD, biD, one1, lenD, intD, absD, tupleD, listS, max2D, maxD, maxI, intsD, isTD, tyD, isT, binD, cmpD, isD, n_non, n_tup, n_lst, n_int, n_str, n_bl, truD, lstAt, itemsD, forD, compD, turnF, turnC, kept_none, szOk, rg_nat, rangeL, at0, at1, at2, at3, at4, at5, at6, ix0, ix1, gc_same, gc_len, eq_int, eq_str, eq_bl, str_inj, str_beq, cut1, cut2, lr0, lr1, lr2, lr3, lr4, lr5, lr6, lr7, b42, sumD, ei, e1, e2, Ck.sz]
      try omega
    | box a b =>
      have e1 := size_run hc h34 h a (n := n + 1) S (by simp only [Ck.dp] at hn; omega)
      have e2 := size_run hc h34 h b (n := n + 1) S (by simp only [Ck.dp] at hn; omega)
      simp only [Ck.d, Ck.inner] at ei ⊢
      simp [runD, exSs, exS, evE, evT, evEs, evL, evI, evIfs, evAnd, evOr, evAndT, evOrT, startD, getV, putV, getO, putVs, putT, wipeE, idxD, sliceD, isAbs, partD, biD, one1, lenD, intD, absD, tupleD, listS, max2D, maxD, maxI, intsD, isTD, tyD, isT, binD, cmpD, isD, n_non, n_tup, n_lst, n_int, n_str, n_bl, truD, lstAt, itemsD, forD, compD, turnF, turnC, kept_none, szOk, rg_nat, rangeL, at0, at1, at2, at3, at4, at5, at6, ix0, ix1, gc_same, gc_len, eq_int, eq_str, eq_bl, str_inj, str_beq, cut1, cut2, lr0, lr1, lr2, lr3, lr4, lr5, lr6, lr7, b42, sumD, ei, e1, e2, Ck.sz]
      try omega
end
end HN

set_option maxHeartbeats 0
/-! Checks: the law's own size, heights, labels. -/
namespace HN
open PySem L2
section
variable {P : Prg} {defs : Nat → Option FD}
theorem lsize_run (h53 : defs 53 = some fd53) (h : defs 54 = some fd54) : ∀ (c : Ck) {n : Nat} (S : Store), c.dp + 1 ≤ n → callF P defs n 54 [c.d] S = some (.int c.sz, S)
  | c, 0, S, hn => by omega
  | c, 1, S, hn => by have := c.dp_pos; omega
  | c, n + 2, S, hn => by
    have ei := linner_run (P := P) h53 c (n := n) S
    rw [callF_on h]
    cases c with
    | any => simp only [Ck.d, Ck.inner] at ei ⊢; simp [runD, exSs, exS, evE, evT, evEs, evL, evI, evIfs, evAnd, evOr, evAndT, evOrT, startD, getV, putV, getO, putVs, putT, wipeE, idxD, sliceD, isAbs, partD, biD, one1, lenD, intD, absD, tupleD, listS, max2D, maxD, maxI, intsD, isTD, tyD, isT, binD, cmpD, isD, n_non, n_tup, n_lst, n_int, n_str, n_bl, truD, lstAt, itemsD, forD, compD, turnF, turnC, kept_none, szOk, rg_nat, rangeL, at0, at1, at2, at3, at4, at5, at6, ix0, ix1, gc_same, gc_len, eq_int, eq_str, eq_bl, str_inj, str_beq, cut1, cut2, lr0, lr1, lr2, lr3, lr4, lr5, lr6, lr7, b54, sumD, ei, Ck.sz]
    | same k => simp only [Ck.d, Ck.inner] at ei ⊢; simp [runD, exSs, exS, evE, evT, evEs, evL, evI, evIfs, evAnd, evOr, evAndT, evOrT, startD, getV, putV, getO, putVs, putT, wipeE, idxD, sliceD, isAbs, partD, biD, one1, lenD, intD, absD, tupleD, listS, max2D, maxD, maxI, intsD, isTD, tyD, isT, binD, cmpD, isD, n_non, n_tup, n_lst, n_int, n_str, n_bl, truD, lstAt, itemsD, forD, compD, turnF, turnC, kept_none, szOk, rg_nat, rangeL, at0, at1, at2, at3, at4, at5, at6, ix0, ix1, gc_same, gc_len, eq_int, eq_str, eq_bl, str_inj, str_beq, cut1, cut2, lr0, lr1, lr2, lr3, lr4, lr5, lr6, lr7, b54, sumD, ei, Ck.sz]
    | fail k q s k' => simp only [Ck.d, Ck.inner] at ei ⊢; simp [runD, exSs, exS, evE, evT, evEs, evL, evI, evIfs, evAnd, evOr, evAndT, evOrT, startD, getV, putV, getO, putVs, putT, wipeE, idxD, sliceD, isAbs, partD, biD, one1, lenD, intD, absD, tupleD, listS, max2D, maxD, maxI, intsD, isTD, tyD, isT, binD, cmpD, isD, n_non, n_tup, n_lst, n_int, n_str, n_bl, truD, lstAt, itemsD, forD, compD, turnF, turnC, kept_none, szOk, rg_nat, rangeL, at0, at1, at2, at3, at4, at5, at6, ix0, ix1, gc_same, gc_len, eq_int, eq_str, eq_bl, str_inj, str_beq, cut1, cut2, lr0, lr1, lr2, lr3, lr4, lr5, lr6, lr7, b54, sumD, ei, Ck.sz]
    | give c =>
      have e1 := lsize_run h53 h c (n := n + 1) S (by simp only [Ck.dp] at hn; omega)
      simp only [Ck.d, Ck.inner] at ei ⊢
      simp [runD, exSs, exS, evE, evT, evEs, evL, evI, evIfs, evAnd, evOr, evAndT, evOrT, startD, getV, putV, getO, putVs, putT, wipeE, idxD, sliceD, isAbs, partD, biD, one1, lenD, intD, absD, tupleD, listS, max2D, maxD, maxI, intsD, isTD, tyD, isT, binD, cmpD, isD, n_non, n_tup, n_lst, n_int, n_str, n_bl, truD, lstAt, itemsD, forD, compD, turnF, turnC, kept_none, szOk, rg_nat, rangeL, at0, at1, at2, at3, at4, at5, at6, ix0, ix1, gc_same, gc_len, eq_int, eq_str, eq_bl, str_inj, str_beq, cut1, cut2, lr0, lr1, lr2, lr3, lr4, lr5, lr6, lr7, b54, sumD, ei, e1, Ck.sz]
      try omega
    | take k q s c =>
      have e1 := lsize_run h53 h c (n := n + 1) S (by simp only [Ck.dp] at hn; omega)
      simp only [Ck.d, Ck.inner] at ei ⊢
      simp [runD, exSs, exS, evE, evT, evEs, evL, evI, evIfs, evAnd, evOr, evAndT, evOrT, startD, getV, putV, getO, putVs, putT, wipeE, idxD, sliceD, isAbs, partD, biD, one1, lenD, intD, absD, tupleD, listS, max2D, maxD, maxI, intsD, isTD, tyD, isT, binD, cmpD, isD, n_non, n_tup, n_lst, n_int, n_str, n_bl, truD, lstAt, itemsD, forD, compD, turnF, turnC, kept_none, szOk, rg_nat, rangeL, at0, at1, at2, at3, at4, at5, at6, ix0, ix1, gc_same, gc_len, eq_int, eq_str, eq_bl, str_inj, str_beq, cut1, cut2, lr0, lr1, lr2, lr3, lr4, lr5, lr6, lr7, b54, sumD, ei, e1, Ck.sz]
      try omega
    | fn a b =>
      have e1 := lsize_run h53 h a (n := n + 1) S (by simp only [Ck.dp] at hn; omega)
      have e2 := lsize_run h53 h b (n := n + 1) S (by simp only [Ck.dp] at hn; omega)
      simp only [Ck.d, Ck.inner] at ei ⊢
      simp [runD, exSs, exS, evE, evT, evEs, evL, evI, evIfs, evAnd, evOr, evAndT, evOrT, startD, getV, putV, getO, putVs, putT, wipeE, idxD, sliceD, isAbs, partD, biD, one1, lenD, intD, absD, tupleD, listS, max2D, maxD, maxI, intsD, isTD, tyD, isT, binD, cmpD, isD, n_non, n_tup, n_lst, n_int, n_str, n_bl, truD, lstAt, itemsD, forD, compD, turnF, turnC, kept_none, szOk, rg_nat, rangeL, at0, at1, at2, at3, at4, at5, at6, ix0, ix1, gc_same, gc_len, eq_int, eq_str, eq_bl, str_inj, str_beq, cut1, cut2, lr0, lr1, lr2, lr3, lr4, lr5, lr6, lr7, b54, sumD, ei, e1, e2, Ck.sz]
      try omega
    | pair a b =>
      have e1 := lsize_run h53 h a (n := n + 1) S (by simp only [Ck.dp] at hn; omega)
      have e2 := lsize_run h53 h b (n := n + 1) S (by simp only [Ck.dp] at hn; omega)
      simp only [Ck.d, Ck.inner] at ei ⊢
      simp [runD, exSs, exS, evE, evT, evEs, evL, evI, evIfs, evAnd, evOr, evAndT, evOrT, startD, getV, putV, getO, putVs, putT, wipeE, idxD, sliceD, isAbs, partD, biD, one1, lenD, intD, absD, tupleD, listS, max2D, maxD, maxI, intsD, isTD, tyD, isT, binD, cmpD, isD, n_non, n_tup, n_lst, n_int, n_str, n_bl, truD, lstAt, itemsD, forD, compD, turnF, turnC, kept_none, szOk, rg_nat, rangeL, at0, at1, at2, at3, at4, at5, at6, ix0, ix1, gc_same, gc_len, eq_int, eq_str, eq_bl, str_inj, str_beq, cut1, cut2, lr0, lr1, lr2, lr3, lr4, lr5, lr6, lr7, b54, sumD, ei, e1, e2, Ck.sz]
      try omega
    | box a b =>
      have e1 := lsize_run h53 h a (n := n + 1) S (by simp only [Ck.dp] at hn; omega)
      have e2 := lsize_run h53 h b (n := n + 1) S (by simp only [Ck.dp] at hn; omega)
      simp only [Ck.d, Ck.inner] at ei ⊢
      simp [runD, exSs, exS, evE, evT, evEs, evL, evI, evIfs, evAnd, evOr, evAndT, evOrT, startD, getV, putV, getO, putVs, putT, wipeE, idxD, sliceD, isAbs, partD, biD, one1, lenD, intD, absD, tupleD, listS, max2D, maxD, maxI, intsD, isTD, tyD, isT, binD, cmpD, isD, n_non, n_tup, n_lst, n_int, n_str, n_bl, truD, lstAt, itemsD, forD, compD, turnF, turnC, kept_none, szOk, rg_nat, rangeL, at0, at1, at2, at3, at4, at5, at6, ix0, ix1, gc_same, gc_len, eq_int, eq_str, eq_bl, str_inj, str_beq, cut1, cut2, lr0, lr1, lr2, lr3, lr4, lr5, lr6, lr7, b54, sumD, ei, e1, e2, Ck.sz]
      try omega
theorem hgt_run (hc : P.glob 2 = some (.tup [.str "fun", .str "pair", .str "box"])) (h34 : defs 34 = some fd34) (h : defs 43 = some fd43) : ∀ (c : Ck) {n : Nat} (S : Store), c.dp + 1 ≤ n → callF P defs n 43 [c.d] S = some (.int c.ht, S)
  | c, 0, S, hn => by omega
  | c, 1, S, hn => by have := c.dp_pos; omega
  | c, n + 2, S, hn => by
    have ei := inner_run (P := P) hc h34 c (n := n) S
    rw [callF_on h]
    cases c with
    | any => simp only [Ck.d, Ck.inner] at ei ⊢; simp [runD, exSs, exS, evE, evT, evEs, evL, evI, evIfs, evAnd, evOr, evAndT, evOrT, startD, getV, putV, getO, putVs, putT, wipeE, idxD, sliceD, isAbs, partD, biD, one1, lenD, intD, absD, tupleD, listS, max2D, maxD, maxI, intsD, isTD, tyD, isT, binD, cmpD, isD, n_non, n_tup, n_lst, n_int, n_str, n_bl, truD, lstAt, itemsD, forD, compD, turnF, turnC, kept_none, szOk, rg_nat, rangeL, at0, at1, at2, at3, at4, at5, at6, ix0, ix1, gc_same, gc_len, eq_int, eq_str, eq_bl, str_inj, str_beq, cut1, cut2, lr0, lr1, lr2, lr3, lr4, lr5, lr6, lr7, b43, max0D, in2b, ei, Ck.ht]
    | same k => simp only [Ck.d, Ck.inner] at ei ⊢; simp [runD, exSs, exS, evE, evT, evEs, evL, evI, evIfs, evAnd, evOr, evAndT, evOrT, startD, getV, putV, getO, putVs, putT, wipeE, idxD, sliceD, isAbs, partD, biD, one1, lenD, intD, absD, tupleD, listS, max2D, maxD, maxI, intsD, isTD, tyD, isT, binD, cmpD, isD, n_non, n_tup, n_lst, n_int, n_str, n_bl, truD, lstAt, itemsD, forD, compD, turnF, turnC, kept_none, szOk, rg_nat, rangeL, at0, at1, at2, at3, at4, at5, at6, ix0, ix1, gc_same, gc_len, eq_int, eq_str, eq_bl, str_inj, str_beq, cut1, cut2, lr0, lr1, lr2, lr3, lr4, lr5, lr6, lr7, b43, max0D, in2b, ei, Ck.ht]
    | fail k q s k' => simp only [Ck.d, Ck.inner] at ei ⊢; simp [runD, exSs, exS, evE, evT, evEs, evL, evI, evIfs, evAnd, evOr, evAndT, evOrT, startD, getV, putV, getO, putVs, putT, wipeE, idxD, sliceD, isAbs, partD, biD, one1, lenD, intD, absD, tupleD, listS, max2D, maxD, maxI, intsD, isTD, tyD, isT, binD, cmpD, isD, n_non, n_tup, n_lst, n_int, n_str, n_bl, truD, lstAt, itemsD, forD, compD, turnF, turnC, kept_none, szOk, rg_nat, rangeL, at0, at1, at2, at3, at4, at5, at6, ix0, ix1, gc_same, gc_len, eq_int, eq_str, eq_bl, str_inj, str_beq, cut1, cut2, lr0, lr1, lr2, lr3, lr4, lr5, lr6, lr7, b43, max0D, in2b, ei, Ck.ht]
    | give c =>
      have e1 := hgt_run hc h34 h c (n := n + 1) S (by simp only [Ck.dp] at hn; omega)
      simp only [Ck.d, Ck.inner] at ei ⊢
      simp [runD, exSs, exS, evE, evT, evEs, evL, evI, evIfs, evAnd, evOr, evAndT, evOrT, startD, getV, putV, getO, putVs, putT, wipeE, idxD, sliceD, isAbs, partD, biD, one1, lenD, intD, absD, tupleD, listS, max2D, maxD, maxI, intsD, isTD, tyD, isT, binD, cmpD, isD, n_non, n_tup, n_lst, n_int, n_str, n_bl, truD, lstAt, itemsD, forD, compD, turnF, turnC, kept_none, szOk, rg_nat, rangeL, at0, at1, at2, at3, at4, at5, at6, ix0, ix1, gc_same, gc_len, eq_int, eq_str, eq_bl, str_inj, str_beq, cut1, cut2, lr0, lr1, lr2, lr3, lr4, lr5, lr6, lr7, b43, max0D, in2b, ei, e1, Ck.ht]
      try omega
    | take k q s c =>
      have e1 := hgt_run hc h34 h c (n := n + 1) S (by simp only [Ck.dp] at hn; omega)
      simp only [Ck.d, Ck.inner] at ei ⊢
      simp [runD, exSs, exS, evE, evT, evEs, evL, evI, evIfs, evAnd, evOr, evAndT, evOrT, startD, getV, putV, getO, putVs, putT, wipeE, idxD, sliceD, isAbs, partD, biD, one1, lenD, intD, absD, tupleD, listS, max2D, maxD, maxI, intsD, isTD, tyD, isT, binD, cmpD, isD, n_non, n_tup, n_lst, n_int, n_str, n_bl, truD, lstAt, itemsD, forD, compD, turnF, turnC, kept_none, szOk, rg_nat, rangeL, at0, at1, at2, at3, at4, at5, at6, ix0, ix1, gc_same, gc_len, eq_int, eq_str, eq_bl, str_inj, str_beq, cut1, cut2, lr0, lr1, lr2, lr3, lr4, lr5, lr6, lr7, b43, max0D, in2b, ei, e1, Ck.ht]
      try omega
    | fn a b =>
      have e1 := hgt_run hc h34 h a (n := n + 1) S (by simp only [Ck.dp] at hn; omega)
      have e2 := hgt_run hc h34 h b (n := n + 1) S (by simp only [Ck.dp] at hn; omega)
      simp only [Ck.d, Ck.inner] at ei ⊢
      simp [runD, exSs, exS, evE, evT, evEs, evL, evI, evIfs, evAnd, evOr, evAndT, evOrT, startD, getV, putV, getO, putVs, putT, wipeE, idxD, sliceD, isAbs, partD, biD, one1, lenD, intD, absD, tupleD, listS, max2D, maxD, maxI, intsD, isTD, tyD, isT, binD, cmpD, isD, n_non, n_tup, n_lst, n_int, n_str, n_bl, truD, lstAt, itemsD, forD, compD, turnF, turnC, kept_none, szOk, rg_nat, rangeL, at0, at1, at2, at3, at4, at5, at6, ix0, ix1, gc_same, gc_len, eq_int, eq_str, eq_bl, str_inj, str_beq, cut1, cut2, lr0, lr1, lr2, lr3, lr4, lr5, lr6, lr7, b43, max0D, in2b, ei, e1, e2, Ck.ht]
      try omega
    | pair a b =>
      have e1 := hgt_run hc h34 h a (n := n + 1) S (by simp only [Ck.dp] at hn; omega)
      have e2 := hgt_run hc h34 h b (n := n + 1) S (by simp only [Ck.dp] at hn; omega)
      simp only [Ck.d, Ck.inner] at ei ⊢
      simp [runD, exSs, exS, evE, evT, evEs, evL, evI, evIfs, evAnd, evOr, evAndT, evOrT, startD, getV, putV, getO, putVs, putT, wipeE, idxD, sliceD, isAbs, partD, biD, one1, lenD, intD, absD, tupleD, listS, max2D, maxD, maxI, intsD, isTD, tyD, isT, binD, cmpD, isD, n_non, n_tup, n_lst, n_int, n_str, n_bl, truD, lstAt, itemsD, forD, compD, turnF, turnC, kept_none, szOk, rg_nat, rangeL, at0, at1, at2, at3, at4, at5, at6, ix0, ix1, gc_same, gc_len, eq_int, eq_str, eq_bl, str_inj, str_beq, cut1, cut2, lr0, lr1, lr2, lr3, lr4, lr5, lr6, lr7, b43, max0D, in2b, ei, e1, e2, Ck.ht]
      try omega
    | box a b =>
      have e1 := hgt_run hc h34 h a (n := n + 1) S (by simp only [Ck.dp] at hn; omega)
      have e2 := hgt_run hc h34 h b (n := n + 1) S (by simp only [Ck.dp] at hn; omega)
      simp only [Ck.d, Ck.inner] at ei ⊢
      simp [runD, exSs, exS, evE, evT, evEs, evL, evI, evIfs, evAnd, evOr, evAndT, evOrT, startD, getV, putV, getO, putVs, putT, wipeE, idxD, sliceD, isAbs, partD, biD, one1, lenD, intD, absD, tupleD, listS, max2D, maxD, maxI, intsD, isTD, tyD, isT, binD, cmpD, isD, n_non, n_tup, n_lst, n_int, n_str, n_bl, truD, lstAt, itemsD, forD, compD, turnF, turnC, kept_none, szOk, rg_nat, rangeL, at0, at1, at2, at3, at4, at5, at6, ix0, ix1, gc_same, gc_len, eq_int, eq_str, eq_bl, str_inj, str_beq, cut1, cut2, lr0, lr1, lr2, lr3, lr4, lr5, lr6, lr7, b43, max0D, in2b, ei, e1, e2, Ck.ht]
      try omega
theorem ldepth_run (h53 : defs 53 = some fd53) (h : defs 55 = some fd55) : ∀ (c : Ck) {n : Nat} (S : Store), c.dp + 1 ≤ n → callF P defs n 55 [c.d] S = some (.int c.ht, S)
  | c, 0, S, hn => by omega
  | c, 1, S, hn => by have := c.dp_pos; omega
  | c, n + 2, S, hn => by
    have ei := linner_run (P := P) h53 c (n := n) S
    rw [callF_on h]
    cases c with
    | any => simp only [Ck.d, Ck.inner] at ei ⊢; simp [runD, exSs, exS, evE, evT, evEs, evL, evI, evIfs, evAnd, evOr, evAndT, evOrT, startD, getV, putV, getO, putVs, putT, wipeE, idxD, sliceD, isAbs, partD, biD, one1, lenD, intD, absD, tupleD, listS, max2D, maxD, maxI, intsD, isTD, tyD, isT, binD, cmpD, isD, n_non, n_tup, n_lst, n_int, n_str, n_bl, truD, lstAt, itemsD, forD, compD, turnF, turnC, kept_none, szOk, rg_nat, rangeL, at0, at1, at2, at3, at4, at5, at6, ix0, ix1, gc_same, gc_len, eq_int, eq_str, eq_bl, str_inj, str_beq, cut1, cut2, lr0, lr1, lr2, lr3, lr4, lr5, lr6, lr7, b55, max0D, in2b, ei, Ck.ht]
    | same k => simp only [Ck.d, Ck.inner] at ei ⊢; simp [runD, exSs, exS, evE, evT, evEs, evL, evI, evIfs, evAnd, evOr, evAndT, evOrT, startD, getV, putV, getO, putVs, putT, wipeE, idxD, sliceD, isAbs, partD, biD, one1, lenD, intD, absD, tupleD, listS, max2D, maxD, maxI, intsD, isTD, tyD, isT, binD, cmpD, isD, n_non, n_tup, n_lst, n_int, n_str, n_bl, truD, lstAt, itemsD, forD, compD, turnF, turnC, kept_none, szOk, rg_nat, rangeL, at0, at1, at2, at3, at4, at5, at6, ix0, ix1, gc_same, gc_len, eq_int, eq_str, eq_bl, str_inj, str_beq, cut1, cut2, lr0, lr1, lr2, lr3, lr4, lr5, lr6, lr7, b55, max0D, in2b, ei, Ck.ht]
    | fail k q s k' => simp only [Ck.d, Ck.inner] at ei ⊢; simp [runD, exSs, exS, evE, evT, evEs, evL, evI, evIfs, evAnd, evOr, evAndT, evOrT, startD, getV, putV, getO, putVs, putT, wipeE, idxD, sliceD, isAbs, partD, biD, one1, lenD, intD, absD, tupleD, listS, max2D, maxD, maxI, intsD, isTD, tyD, isT, binD, cmpD, isD, n_non, n_tup, n_lst, n_int, n_str, n_bl, truD, lstAt, itemsD, forD, compD, turnF, turnC, kept_none, szOk, rg_nat, rangeL, at0, at1, at2, at3, at4, at5, at6, ix0, ix1, gc_same, gc_len, eq_int, eq_str, eq_bl, str_inj, str_beq, cut1, cut2, lr0, lr1, lr2, lr3, lr4, lr5, lr6, lr7, b55, max0D, in2b, ei, Ck.ht]
    | give c =>
      have e1 := ldepth_run h53 h c (n := n + 1) S (by simp only [Ck.dp] at hn; omega)
      simp only [Ck.d, Ck.inner] at ei ⊢
      simp [runD, exSs, exS, evE, evT, evEs, evL, evI, evIfs, evAnd, evOr, evAndT, evOrT, startD, getV, putV, getO, putVs, putT, wipeE, idxD, sliceD, isAbs, partD, biD, one1, lenD, intD, absD, tupleD, listS, max2D, maxD, maxI, intsD, isTD, tyD, isT, binD, cmpD, isD, n_non, n_tup, n_lst, n_int, n_str, n_bl, truD, lstAt, itemsD, forD, compD, turnF, turnC, kept_none, szOk, rg_nat, rangeL, at0, at1, at2, at3, at4, at5, at6, ix0, ix1, gc_same, gc_len, eq_int, eq_str, eq_bl, str_inj, str_beq, cut1, cut2, lr0, lr1, lr2, lr3, lr4, lr5, lr6, lr7, b55, max0D, in2b, ei, e1, Ck.ht]
      try omega
    | take k q s c =>
      have e1 := ldepth_run h53 h c (n := n + 1) S (by simp only [Ck.dp] at hn; omega)
      simp only [Ck.d, Ck.inner] at ei ⊢
      simp [runD, exSs, exS, evE, evT, evEs, evL, evI, evIfs, evAnd, evOr, evAndT, evOrT, startD, getV, putV, getO, putVs, putT, wipeE, idxD, sliceD, isAbs, partD, biD, one1, lenD, intD, absD, tupleD, listS, max2D, maxD, maxI, intsD, isTD, tyD, isT, binD, cmpD, isD, n_non, n_tup, n_lst, n_int, n_str, n_bl, truD, lstAt, itemsD, forD, compD, turnF, turnC, kept_none, szOk, rg_nat, rangeL, at0, at1, at2, at3, at4, at5, at6, ix0, ix1, gc_same, gc_len, eq_int, eq_str, eq_bl, str_inj, str_beq, cut1, cut2, lr0, lr1, lr2, lr3, lr4, lr5, lr6, lr7, b55, max0D, in2b, ei, e1, Ck.ht]
      try omega
    | fn a b =>
      have e1 := ldepth_run h53 h a (n := n + 1) S (by simp only [Ck.dp] at hn; omega)
      have e2 := ldepth_run h53 h b (n := n + 1) S (by simp only [Ck.dp] at hn; omega)
      simp only [Ck.d, Ck.inner] at ei ⊢
      simp [runD, exSs, exS, evE, evT, evEs, evL, evI, evIfs, evAnd, evOr, evAndT, evOrT, startD, getV, putV, getO, putVs, putT, wipeE, idxD, sliceD, isAbs, partD, biD, one1, lenD, intD, absD, tupleD, listS, max2D, maxD, maxI, intsD, isTD, tyD, isT, binD, cmpD, isD, n_non, n_tup, n_lst, n_int, n_str, n_bl, truD, lstAt, itemsD, forD, compD, turnF, turnC, kept_none, szOk, rg_nat, rangeL, at0, at1, at2, at3, at4, at5, at6, ix0, ix1, gc_same, gc_len, eq_int, eq_str, eq_bl, str_inj, str_beq, cut1, cut2, lr0, lr1, lr2, lr3, lr4, lr5, lr6, lr7, b55, max0D, in2b, ei, e1, e2, Ck.ht]
      try omega
    | pair a b =>
      have e1 := ldepth_run h53 h a (n := n + 1) S (by simp only [Ck.dp] at hn; omega)
      have e2 := ldepth_run h53 h b (n := n + 1) S (by simp only [Ck.dp] at hn; omega)
      simp only [Ck.d, Ck.inner] at ei ⊢
      simp [runD, exSs, exS, evE, evT, evEs, evL, evI, evIfs, evAnd, evOr, evAndT, evOrT, startD, getV, putV, getO, putVs, putT, wipeE, idxD, sliceD, isAbs, partD, biD, one1, lenD, intD, absD, tupleD, listS, max2D, maxD, maxI, intsD, isTD, tyD, isT, binD, cmpD, isD, n_non, n_tup, n_lst, n_int, n_str, n_bl, truD, lstAt, itemsD, forD, compD, turnF, turnC, kept_none, szOk, rg_nat, rangeL, at0, at1, at2, at3, at4, at5, at6, ix0, ix1, gc_same, gc_len, eq_int, eq_str, eq_bl, str_inj, str_beq, cut1, cut2, lr0, lr1, lr2, lr3, lr4, lr5, lr6, lr7, b55, max0D, in2b, ei, e1, e2, Ck.ht]
      try omega
    | box a b =>
      have e1 := ldepth_run h53 h a (n := n + 1) S (by simp only [Ck.dp] at hn; omega)
      have e2 := ldepth_run h53 h b (n := n + 1) S (by simp only [Ck.dp] at hn; omega)
      simp only [Ck.d, Ck.inner] at ei ⊢
      simp [runD, exSs, exS, evE, evT, evEs, evL, evI, evIfs, evAnd, evOr, evAndT, evOrT, startD, getV, putV, getO, putVs, putT, wipeE, idxD, sliceD, isAbs, partD, biD, one1, lenD, intD, absD, tupleD, listS, max2D, maxD, maxI, intsD, isTD, tyD, isT, binD, cmpD, isD, n_non, n_tup, n_lst, n_int, n_str, n_bl, truD, lstAt, itemsD, forD, compD, turnF, turnC, kept_none, szOk, rg_nat, rangeL, at0, at1, at2, at3, at4, at5, at6, ix0, ix1, gc_same, gc_len, eq_int, eq_str, eq_bl, str_inj, str_beq, cut1, cut2, lr0, lr1, lr2, lr3, lr4, lr5, lr6, lr7, b55, max0D, in2b, ei, e1, e2, Ck.ht]
      try omega
theorem compD_filter {α : Type} {T : D → Store → Option (Option D × Store)} {S : Store} {f : α → D} {p : α → Bool} : ∀ {l : List α}, (∀ x ∈ l, T (f x) S = some (if p x then some (f x) else none, S)) → compD T (l.map f) S = some ((l.filter p).map f, S)
  | [], _ => rfl
  | x :: l, h => by
    have ih := compD_filter (T := T) (S := S) (f := f) (p := p) (l := l) fun y hy => h y (List.mem_cons_of_mem _ hy)
    show (T (f x) S).bind _ = _
    rw [h x List.mem_cons_self]
    cases q : p x with
    | true => simp [ih, q]
    | false => simp [ih, q]
theorem lb_eqv (x y : Int × Int) : D.eqv (lbD x) (lbD y) = decide (x = y) := by
  obtain ⟨a, b⟩ := x
  obtain ⟨c, d⟩ := y
  by_cases h : a = c <;> by_cases h2 : b = d <;> simp [lbD, D.eqv, D.eqvL, h, h2]
theorem lb_data (F : List (Int × Int)) : D.dataL (F.map lbD) = true := by
  induction F <;> simp_all [D.dataL, D.data, lbD]
theorem lb_in (x : Int × Int) (F : List (Int × Int)) : inD (lbD x) (F.map lbD) = some (F.contains x) := by
  have h1 : D.data (lbD x) = true := rfl
  have h2 : D.dep (lbD x) = 1 := rfl
  unfold inD
  rw [h1, lb_data, h2, if_pos (by simp; omega), List.any_map]
  congr 1
  induction F with
  | nil => rfl
  | cons y F ih =>
    rw [List.any_cons, List.contains_cons, ih]
    simp only [Function.comp, lb_eqv]
    by_cases h : y = x
    · subst h; simp
    · have : ¬ x = y := fun e => h e.symm
      simp [h, this]
def llb : Ss := (.cons (.set 1 (.bin .add (.var 1) (.frz (.comp [3] true (.e (.call 56 (.cons (.var 2) .nil))) (.cons (.cmp .notIn (.var 3) (.var 1)) .nil) (.var 3))))) .nil)
theorem ll_turn {mk : CallF} {n : Nat} {F U : List (Int × Int)} {x p : D} {s2 s3 : Slot} {S : Store} (e : callF P defs n 56 [p] S = some (.lst (U.map lbD), S)) (hF : F.length ≤ 1000000) (hU : U.length ≤ 1000000) :
    turnF true [2] none (exSs P (callF P defs n) mk llb) p [.val x, .val (.lst (F.map lbD)), s2, s3] S = some (.nx [.val x, .val (.lst ((more F U).map lbD)), .val p, s3] S) := by
  have hc : compD (turnC true [3] none (evIfs P (callF P defs n) mk (.cons (.cmp .notIn (.var 3) (.var 1)) .nil)) (evE P (callF P defs n) mk (.var 3)) [.val x, .val (.lst (F.map lbD)), .val p, s3]) (U.map lbD) S = some ((U.filter fun y => !F.contains y).map lbD, S) := by
    refine compD_filter fun y hy => ?_
    have q := lb_in y F
    cases z : F.contains y with
    | true => rw [z] at q; simp [turnC, putT, putV, wipeE, evIfs, evT, evE, getV, cmpD, q, kept_none]
    | false => rw [z] at q; simp [turnC, putT, putV, wipeE, evIfs, evT, evE, getV, cmpD, q, kept_none]
  have hl := List.length_filter_le (fun y => !F.contains y) U
  have hz : szOk ((F.map lbD).length + ((U.filter fun y => !F.contains y).map lbD).length) = true := by
    unfold szOk
    rw [List.length_map, List.length_map]
    exact decide_eq_true (by omega)
  have hz2 : decide ((U.map lbD).length ≤ 16777216) = true := by rw [List.length_map]; exact decide_eq_true (by omega)
  have el : evL P (callF P defs n) mk (.comp [3] true (.e (.call 56 (.cons (.var 2) .nil))) (.cons (.cmp .notIn (.var 3) (.var 1)) .nil) (.var 3)) [.val x, .val (.lst (F.map lbD)), .val p, s3] S = some ((U.filter fun y => !F.contains y).map lbD, S) := by
    have ev : evI P (callF P defs n) mk (.e (.call 56 (.cons (.var 2) .nil))) [.val x, .val (.lst (F.map lbD)), .val p, s3] S = some ((U.map lbD, none), S) := by simp [evI, evE, evEs, getV, e, itemsD]
    simp only [evL, ev, Option.bind_some, hz2, if_true, hc]
  have eb : exSs P (callF P defs n) mk llb [.val x, .val (.lst (F.map lbD)), .val p, s3] S = some (.nx [.val x, .val (.lst ((more F U).map lbD)), .val p, s3] S) := by
    have ee : evE P (callF P defs n) mk (.bin .add (.var 1) (.frz (.comp [3] true (.e (.call 56 (.cons (.var 2) .nil))) (.cons (.cmp .notIn (.var 3) (.var 1)) .nil) (.var 3)))) [.val x, .val (.lst (F.map lbD)), .val p, s3] S = some (.lst ((more F U).map lbD), S) := by
      simp only [evE, getV, List.getElem?_cons_succ, List.getElem?_cons_zero, Option.map_some, Option.bind_some, el, binD, hz, if_true]
      rw [more, List.map_append]
    show (exS P (callF P defs n) mk (.set 1 _) _ S).bind _ = _
    simp only [exS, ee, Option.map_some, Option.bind_some]
    rfl
  simp [turnF, putT, putV, eb, kept_none]
theorem ll_end (h : defs 56 = some fd56) {n : Nat} {x : D} {F0 R : List (Int × Int)} {I : List D} {s2 : Slot} {S : Store} (e0 : exSs P (callF P defs (n + 1)) (callP P defs (n + 1)).2 (b56.take 3) [.val x, .un, .un, .un] S = some (.nx [.val x, .val (.lst (F0.map lbD)), .un, .un] S)) (ei : callF P defs (n + 1) 53 [x] S = some (.lst I, S))
    (ef : forD (turnF true [2] none (exSs P (callF P defs (n + 1)) (callP P defs (n + 1)).2 llb)) I [.val x, .val (.lst (F0.map lbD)), .un, .un] S = some (.nx [.val x, .val (.lst (R.map lbD)), s2, .un] S)) : callF P defs (n + 2) 56 [x] S = some (.lst (R.map lbD), S) := by
  rw [callF_on h]
  refine runD_rt rfl ?_
  show exSs P _ _ b56 [.val x, .un, .un, .un] S = _
  rw [exSs_at (k := 3) e0]
  show exSs P _ _ (.cons (.forS [2] true (.e (.call 53 (.cons (.var 0) .nil))) llb) (.cons (.ret (.var 1)) .nil)) _ S = _
  have ev : evI P (callF P defs (n + 1)) (callP P defs (n + 1)).2 (.e (.call 53 (.cons (.var 0) .nil))) [.val x, .val (.lst (F0.map lbD)), .un, .un] S = some ((I, none), S) := by simp [evI, evE, evEs, getV, ei, itemsD]
  rw [exSs_nx (ρ1 := [.val x, .val (.lst (R.map lbD)), s2, .un]) (S1 := S) (by simp only [exS, ev, Option.bind_some, ef])]
  simp [exSs, exS, evE, getV]
theorem ll_two (h : defs 56 = some fd56) {n : Nat} {S : Store} (a b c : Ck) (hi : c.inner = [a, b]) (hu : c.ul = more (more [] a.ul) b.ul) (hl : a.sz + b.sz ≤ 1000000) (hn : max a.dp b.dp + 1 ≤ n + 1) (ei : callF P defs (n + 1) 53 [c.d] S = some (.lst (c.inner.map Ck.d), S))
    (e0 : exSs P (callF P defs (n + 1)) (callP P defs (n + 1)).2 (b56.take 3) [.val c.d, .un, .un, .un] S = some (.nx [.val c.d, .val (.lst (([] : List (Int × Int)).map lbD)), .un, .un] S))
    (e : a.dp + 1 ≤ n + 1 → b.dp + 1 ≤ n + 1 → callF P defs (n + 1) 56 [a.d] S = some (.lst (a.ul.map lbD), S) ∧ callF P defs (n + 1) 56 [b.d] S = some (.lst (b.ul.map lbD), S)) : callF P defs (n + 2) 56 [c.d] S = some (.lst (c.ul.map lbD), S) := by
  obtain ⟨e1, e2⟩ := e (by omega) (by omega)
  have l1 := a.ul_len
  have l2 := b.ul_len
  have l3 := more_len [] a.ul
  have t1 := ll_turn (P := P) (mk := (callP P defs (n + 1)).2) (F := []) (x := c.d) (s2 := .un) (s3 := .un) e1 (by simp) (by omega)
  have t2 := ll_turn (P := P) (mk := (callP P defs (n + 1)).2) (F := more [] a.ul) (x := c.d) (s2 := .val a.d) (s3 := .un) e2 (by simp only [List.length_nil] at l3; omega) (by omega)
  rw [hu]
  rw [hi] at ei
  refine ll_end h (F0 := []) (R := more (more [] a.ul) b.ul) (s2 := .val b.d) e0 ei ?_
  show (turnF _ _ _ _ _ _ _).bind _ = _
  rw [t1]
  show (turnF _ _ _ _ _ _ _).bind _ = _
  rw [t2]
  rfl
theorem llabs_run (h53 : defs 53 = some fd53) (h : defs 56 = some fd56) : ∀ (c : Ck) {n : Nat} (S : Store), c.dp + 1 ≤ n → c.sz ≤ 1000000 → callF P defs n 56 [c.d] S = some (.lst (c.ul.map lbD), S)
  | c, 0, S, hn, hl => by omega
  | c, 1, S, hn, hl => by have := c.dp_pos; omega
  | c, n + 2, S, hn, hl => by
    have ei := linner_run (P := P) h53 c (n := n) S
    cases c with
    | any => exact ll_end h (F0 := []) (R := []) (s2 := .un) (by simp [runD, exSs, exS, evE, evT, evEs, evL, evI, evIfs, evAnd, evOr, evAndT, evOrT, startD, getV, putV, getO, putVs, putT, wipeE, idxD, sliceD, isAbs, partD, biD, one1, lenD, intD, absD, tupleD, listS, max2D, maxD, maxI, intsD, isTD, tyD, isT, binD, cmpD, isD, n_non, n_tup, n_lst, n_int, n_str, n_bl, truD, lstAt, itemsD, forD, compD, turnF, turnC, kept_none, szOk, rg_nat, rangeL, at0, at1, at2, at3, at4, at5, at6, ix0, ix1, gc_same, gc_len, eq_int, eq_str, eq_bl, str_inj, str_beq, cut1, cut2, lr0, lr1, lr2, lr3, lr4, lr5, lr6, lr7, b56, Ss.take, Ck.d]) ei rfl
    | same k => exact ll_end h (F0 := []) (R := []) (s2 := .un) (by simp [runD, exSs, exS, evE, evT, evEs, evL, evI, evIfs, evAnd, evOr, evAndT, evOrT, startD, getV, putV, getO, putVs, putT, wipeE, idxD, sliceD, isAbs, partD, biD, one1, lenD, intD, absD, tupleD, listS, max2D, maxD, maxI, intsD, isTD, tyD, isT, binD, cmpD, isD, n_non, n_tup, n_lst, n_int, n_str, n_bl, truD, lstAt, itemsD, forD, compD, turnF, turnC, kept_none, szOk, rg_nat, rangeL, at0, at1, at2, at3, at4, at5, at6, ix0, ix1, gc_same, gc_len, eq_int, eq_str, eq_bl, str_inj, str_beq, cut1, cut2, lr0, lr1, lr2, lr3, lr4, lr5, lr6, lr7, b56, Ss.take, Ck.d]) ei rfl
    | fail k q s k' => exact ll_end h (F0 := [(q, s)]) (R := [(q, s)]) (s2 := .un) (by simp [runD, exSs, exS, evE, evT, evEs, evL, evI, evIfs, evAnd, evOr, evAndT, evOrT, startD, getV, putV, getO, putVs, putT, wipeE, idxD, sliceD, isAbs, partD, biD, one1, lenD, intD, absD, tupleD, listS, max2D, maxD, maxI, intsD, isTD, tyD, isT, binD, cmpD, isD, n_non, n_tup, n_lst, n_int, n_str, n_bl, truD, lstAt, itemsD, forD, compD, turnF, turnC, kept_none, szOk, rg_nat, rangeL, at0, at1, at2, at3, at4, at5, at6, ix0, ix1, gc_same, gc_len, eq_int, eq_str, eq_bl, str_inj, str_beq, cut1, cut2, lr0, lr1, lr2, lr3, lr4, lr5, lr6, lr7, b56, Ss.take, Ck.d, lbD]) ei rfl
    | give c =>
      simp only [Ck.sz] at hl
      have e1 := llabs_run h53 h c (n := n + 1) S (by simp only [Ck.dp] at hn; omega) (by omega)
      have l1 := c.ul_len
      have t1 := ll_turn (P := P) (mk := (callP P defs (n + 1)).2) (F := []) (x := (Ck.give c).d) (s2 := .un) (s3 := .un) e1 (by simp) (by omega)
      refine ll_end h (F0 := []) (R := more [] c.ul) (s2 := .val c.d) (by simp [runD, exSs, exS, evE, evT, evEs, evL, evI, evIfs, evAnd, evOr, evAndT, evOrT, startD, getV, putV, getO, putVs, putT, wipeE, idxD, sliceD, isAbs, partD, biD, one1, lenD, intD, absD, tupleD, listS, max2D, maxD, maxI, intsD, isTD, tyD, isT, binD, cmpD, isD, n_non, n_tup, n_lst, n_int, n_str, n_bl, truD, lstAt, itemsD, forD, compD, turnF, turnC, kept_none, szOk, rg_nat, rangeL, at0, at1, at2, at3, at4, at5, at6, ix0, ix1, gc_same, gc_len, eq_int, eq_str, eq_bl, str_inj, str_beq, cut1, cut2, lr0, lr1, lr2, lr3, lr4, lr5, lr6, lr7, b56, Ss.take, Ck.d]) ei ?_
      show (turnF _ _ _ _ _ _ _).bind _ = _
      rw [t1]
      rfl
    | take k q s c =>
      simp only [Ck.sz] at hl
      have e1 := llabs_run h53 h c (n := n + 1) S (by simp only [Ck.dp] at hn; omega) (by omega)
      have l1 := c.ul_len
      have t1 := ll_turn (P := P) (mk := (callP P defs (n + 1)).2) (F := [(q, s)]) (x := (Ck.take k q s c).d) (s2 := .un) (s3 := .un) e1 (by simp) (by omega)
      refine ll_end h (F0 := [(q, s)]) (R := more [(q, s)] c.ul) (s2 := .val c.d) (by simp [runD, exSs, exS, evE, evT, evEs, evL, evI, evIfs, evAnd, evOr, evAndT, evOrT, startD, getV, putV, getO, putVs, putT, wipeE, idxD, sliceD, isAbs, partD, biD, one1, lenD, intD, absD, tupleD, listS, max2D, maxD, maxI, intsD, isTD, tyD, isT, binD, cmpD, isD, n_non, n_tup, n_lst, n_int, n_str, n_bl, truD, lstAt, itemsD, forD, compD, turnF, turnC, kept_none, szOk, rg_nat, rangeL, at0, at1, at2, at3, at4, at5, at6, ix0, ix1, gc_same, gc_len, eq_int, eq_str, eq_bl, str_inj, str_beq, cut1, cut2, lr0, lr1, lr2, lr3, lr4, lr5, lr6, lr7, b56, Ss.take, Ck.d, lbD]) ei ?_
      show (turnF _ _ _ _ _ _ _).bind _ = _
      rw [t1]
      rfl
    | fn a b => exact ll_two h a b (.fn a b) rfl rfl (by simp only [Ck.sz] at hl; omega) (by simp only [Ck.dp] at hn; omega) ei (by simp [runD, exSs, exS, evE, evT, evEs, evL, evI, evIfs, evAnd, evOr, evAndT, evOrT, startD, getV, putV, getO, putVs, putT, wipeE, idxD, sliceD, isAbs, partD, biD, one1, lenD, intD, absD, tupleD, listS, max2D, maxD, maxI, intsD, isTD, tyD, isT, binD, cmpD, isD, n_non, n_tup, n_lst, n_int, n_str, n_bl, truD, lstAt, itemsD, forD, compD, turnF, turnC, kept_none, szOk, rg_nat, rangeL, at0, at1, at2, at3, at4, at5, at6, ix0, ix1, gc_same, gc_len, eq_int, eq_str, eq_bl, str_inj, str_beq, cut1, cut2, lr0, lr1, lr2, lr3, lr4, lr5, lr6, lr7, b56, Ss.take, Ck.d]) (fun h1 h2 => ⟨llabs_run h53 h a (n := n + 1) S h1 (by simp only [Ck.sz] at hl; omega), llabs_run h53 h b (n := n + 1) S h2 (by simp only [Ck.sz] at hl; omega)⟩)
    | pair a b => exact ll_two h a b (.pair a b) rfl rfl (by simp only [Ck.sz] at hl; omega) (by simp only [Ck.dp] at hn; omega) ei (by simp [runD, exSs, exS, evE, evT, evEs, evL, evI, evIfs, evAnd, evOr, evAndT, evOrT, startD, getV, putV, getO, putVs, putT, wipeE, idxD, sliceD, isAbs, partD, biD, one1, lenD, intD, absD, tupleD, listS, max2D, maxD, maxI, intsD, isTD, tyD, isT, binD, cmpD, isD, n_non, n_tup, n_lst, n_int, n_str, n_bl, truD, lstAt, itemsD, forD, compD, turnF, turnC, kept_none, szOk, rg_nat, rangeL, at0, at1, at2, at3, at4, at5, at6, ix0, ix1, gc_same, gc_len, eq_int, eq_str, eq_bl, str_inj, str_beq, cut1, cut2, lr0, lr1, lr2, lr3, lr4, lr5, lr6, lr7, b56, Ss.take, Ck.d]) (fun h1 h2 => ⟨llabs_run h53 h a (n := n + 1) S h1 (by simp only [Ck.sz] at hl; omega), llabs_run h53 h b (n := n + 1) S h2 (by simp only [Ck.sz] at hl; omega)⟩)
    | box a b => exact ll_two h a b (.box a b) rfl rfl (by simp only [Ck.sz] at hl; omega) (by simp only [Ck.dp] at hn; omega) ei (by simp [runD, exSs, exS, evE, evT, evEs, evL, evI, evIfs, evAnd, evOr, evAndT, evOrT, startD, getV, putV, getO, putVs, putT, wipeE, idxD, sliceD, isAbs, partD, biD, one1, lenD, intD, absD, tupleD, listS, max2D, maxD, maxI, intsD, isTD, tyD, isT, binD, cmpD, isD, n_non, n_tup, n_lst, n_int, n_str, n_bl, truD, lstAt, itemsD, forD, compD, turnF, turnC, kept_none, szOk, rg_nat, rangeL, at0, at1, at2, at3, at4, at5, at6, ix0, ix1, gc_same, gc_len, eq_int, eq_str, eq_bl, str_inj, str_beq, cut1, cut2, lr0, lr1, lr2, lr3, lr4, lr5, lr6, lr7, b56, Ss.take, Ck.d]) (fun h1 h2 => ⟨llabs_run h53 h a (n := n + 1) S h1 (by simp only [Ck.sz] at hl; omega), llabs_run h53 h b (n := n + 1) S h2 (by simp only [Ck.sz] at hl; omega)⟩)
end
end HN

set_option maxHeartbeats 0
/-! Checks: is_check. -/
namespace HN
open PySem L2
/-- is_text -/
def b44 : Ss := (.cons (.ret (.isi .isStr (.var 0))) .nil)
abbrev fd44 : FD := ⟨1, 1, b44⟩
/-- is_integer -/
def b45 : Ss := (.cons (.ret (.and (.cons (.isi .isInt (.var 0)) (.cons (.not (.isi .isBool (.var 0))) .nil)))) .nil)
abbrev fd45 : FD := ⟨1, 1, b45⟩
/-- is_row -/
def b46 : Ss := (.cons (.ret (.and (.cons (.isi .isTuple (.var 0)) (.cons (.cmp .eq (.bi .len (.cons (.var 0) .nil)) (.var 2)) (.cons (.call 44 (.cons (.idx (.var 0) (.int 0)) .nil)) (.cons (.cmp .eq (.idx (.var 0) (.int 0)) (.var 1)) .nil)))))) .nil)
abbrev fd46 : FD := ⟨3, 3, b46⟩
/-- is_label -/
def b48 : Ss := (.cons (.ite (.or (.cons (.not (.isi .isTuple (.var 0))) (.cons (.cmp .ne (.bi .len (.cons (.var 0) .nil)) (.int 2)) .nil))) (.cons (.ret (.bl false)) .nil) .nil) (.cons (.ret (.and (.cons (.call 45 (.cons (.idx (.var 0) (.int 0)) .nil)) (.cons (.call 45 (.cons (.idx (.var 0) (.int 1)) .nil)) (.cons (.cmp .ge (.idx (.var 0) (.int 0)) (.int 0)) (.cons (.cmp .isIn (.idx (.var 0) (.int 1)) (.tup (.cons (.int 0) (.cons (.int 1) .nil)))) .nil)))))) .nil))
abbrev fd48 : FD := ⟨1, 1, b48⟩
/-- is_ground -/
def b49 : Ss := (.cons (.ret (.and (.cons (.call 44 (.cons (.var 0) .nil)) (.cons (.or (.cons (.cmp .isIn (.var 0) (.glob 1)) (.cons (.cmp .isIn (.var 0) (.glob 2)) .nil))) .nil)))) .nil)
abbrev fd49 : FD := ⟨1, 1, b49⟩
/-- is_fail -/
def b50 : Ss := (.cons (.ite (.or (.cons (.not (.call 46 (.cons (.var 0) (.cons (.str "fail") (.cons (.int 4) .nil))))) (.cons (.not (.call 48 (.cons (.idx (.var 0) (.int 2)) .nil))) .nil))) (.cons (.ret (.bl false)) .nil) .nil) (.cons (.ret (.and (.cons (.call 49 (.cons (.idx (.var 0) (.int 1)) .nil)) (.cons (.call 49 (.cons (.idx (.var 0) (.int 3)) .nil)) (.cons (.cmp .ne (.idx (.var 0) (.int 1)) (.idx (.var 0) (.int 3))) .nil))))) .nil))
abbrev fd50 : FD := ⟨1, 1, b50⟩
/-- is_plain -/
def b51 : Ss := (.cons (.ite (.cmp .lt (.var 1) (.int 1)) (.cons (.ret (.bl false)) .nil) .nil) (.cons (.ite (.call 46 (.cons (.var 0) (.cons (.str "same") (.cons (.int 2) .nil)))) (.cons (.ret (.and (.cons (.call 44 (.cons (.idx (.var 0) (.int 1)) .nil)) (.cons (.cmp .isIn (.idx (.var 0) (.int 1)) (.glob 1)) .nil)))) .nil) .nil) (.cons (.forS [2] true (.e (.glob 2)) (.cons (.ite (.call 46 (.cons (.var 0) (.cons (.var 2) (.cons (.int 3) .nil)))) (.cons (.ret (.and (.cons (.call 47 (.cons (.idx (.var 0) (.int 1)) (.cons (.bin .sub (.var 1) (.int 1)) .nil))) (.cons (.call 47 (.cons (.idx (.var 0) (.int 2)) (.cons (.bin .sub (.var 1) (.int 1)) .nil))) .nil)))) .nil) .nil) .nil)) (.cons (.ret (.bl false)) .nil))))
abbrev fd51 : FD := ⟨2, 3, b51⟩
/-- is_end -/
def b52 : Ss := (.cons (.ite (.call 50 (.cons (.var 0) .nil)) (.cons (.ret (.cmp .eq (.idx (.var 0) (.int 1)) (.var 1))) .nil) .nil) (.cons (.ite (.call 46 (.cons (.var 0) (.cons (.str "give") (.cons (.int 2) .nil)))) (.cons (.ret (.and (.cons (.call 51 (.cons (.idx (.var 0) (.int 1)) (.cons (.var 2) .nil))) (.cons (.cmp .eq (.call 26 (.cons (.idx (.var 0) (.int 1)) .nil)) (.var 1)) .nil)))) .nil) .nil) (.cons (.ret (.and (.cons (.call 51 (.cons (.var 0) (.cons (.var 2) .nil))) (.cons (.cmp .eq (.call 26 (.cons (.var 0) .nil)) (.var 1)) .nil)))) .nil)))
abbrev fd52 : FD := ⟨3, 3, b52⟩
/-- is_within -/
def b47 : Ss := (.cons (.ite (.cmp .lt (.var 1) (.int 1)) (.cons (.ret (.bl false)) .nil) .nil) (.cons (.ite (.or (.cons (.call 46 (.cons (.var 0) (.cons (.str "any") (.cons (.int 1) .nil)))) (.cons (.call 50 (.cons (.var 0) .nil)) (.cons (.call 51 (.cons (.var 0) (.cons (.var 1) .nil))) .nil)))) (.cons (.ret (.bl true)) .nil) .nil) (.cons (.ite (.call 46 (.cons (.var 0) (.cons (.str "give") (.cons (.int 2) .nil)))) (.cons (.ret (.call 51 (.cons (.idx (.var 0) (.int 1)) (.cons (.var 1) .nil)))) .nil) .nil) (.cons (.ite (.call 46 (.cons (.var 0) (.cons (.str "take") (.cons (.int 4) .nil)))) (.cons (.ret (.and (.cons (.call 49 (.cons (.idx (.var 0) (.int 1)) .nil)) (.cons (.call 48 (.cons (.idx (.var 0) (.int 2)) .nil)) (.cons (.call 52 (.cons (.idx (.var 0) (.int 3)) (.cons (.idx (.var 0) (.int 1)) (.cons (.var 1) .nil)))) .nil))))) .nil) .nil) (.cons (.ret (.bl false)) .nil)))))
abbrev fd47 : FD := ⟨2, 2, b47⟩
/-- is_check -/
def b58 : Ss := (.cons (.ret (.call 47 (.cons (.var 0) (.cons (.glob 3) .nil)))) .nil)
abbrev fd58 : FD := ⟨1, 1, b58⟩
/-- labels that are labels, fails of two grounds -/
def Ck.gl : Ck → Prop
  | .any => True
  | .same _ => True
  | .fn a b => a.gl ∧ b.gl
  | .pair a b => a.gl ∧ b.gl
  | .box a b => a.gl ∧ b.gl
  | .give c => c.gl
  | .take _ n s c => (0 ≤ n ∧ n < 1000000 ∧ (s = 0 ∨ s = 1)) ∧ c.gl
  | .fail k n s k' => (0 ≤ n ∧ n < 1000000 ∧ (s = 0 ∨ s = 1)) ∧ k ≠ k'
theorem Ck.gl_of {n : Int} (h0 : 0 ≤ n) (h1 : n < 1000000) : ∀ (m : Nat) (s : Int) (S T : Ty), S.h + T.h ≤ m → (s = 0 ∨ s = 1) → (Ck.of n s S T).gl
  | 0, s, S, T, hm, _ => by have := S.h_pos; omega
  | m + 1, s, S, T, hm, hs => by
    have h1' : Ty.h .any = 1 := rfl
    have hs' : (1 - s = 0 ∨ 1 - s = 1) := by omega
    have lb : 0 ≤ n ∧ n < 1000000 ∧ (s = 0 ∨ s = 1) := ⟨h0, h1, hs⟩
    cases S <;> cases T <;> rw [Ck.of] <;> (try simp only [Ck.gl, and_true, true_and]) <;> (try simp only [Ty.h] at hm)
    all_goals try (intros; contradiction)
    all_goals try trivial
    all_goals try exact lb
    all_goals first
      | exact ⟨Ck.gl_of h0 h1 m _ _ _ (by rw [h1']; omega) hs', Ck.gl_of h0 h1 m _ _ _ (by rw [h1']; omega) hs⟩
      | exact ⟨Ck.gl_of h0 h1 m _ _ _ (by rw [h1']; omega) hs, Ck.gl_of h0 h1 m _ _ _ (by rw [h1']; omega) hs⟩
      | exact ⟨lb, Ck.gl_of h0 h1 m _ _ _ (by rw [h1']; omega) hs', Ck.gl_of h0 h1 m _ _ _ (by rw [h1']; omega) hs⟩
      | exact ⟨lb, Ck.gl_of h0 h1 m _ _ _ (by rw [h1']; omega) hs, Ck.gl_of h0 h1 m _ _ _ (by rw [h1']; omega) hs⟩
      | exact ⟨Ck.gl_of h0 h1 m _ _ _ (by omega) hs', Ck.gl_of h0 h1 m _ _ _ (by omega) hs⟩
      | exact ⟨Ck.gl_of h0 h1 m _ _ _ (by omega) hs, Ck.gl_of h0 h1 m _ _ _ (by omega) hs⟩
theorem Ck.gl_joinN : ∀ (m : Nat) (c d : Ck) (S T U : Ty), c.dp + d.dp ≤ m → c.ok S T → d.ok T U → c.gl → d.gl → (c.join d).gl
  | 0, c, d, S, T, U, hn, _, _, _, _ => by have := c.dp_pos; omega
  | m + 1, .any, d, S, T, U, hn, o1, o2, h1, h2 => by rw [Ck.join]; exact h2
  | m + 1, .fail k n s k', d, S, T, U, hn, o1, o2, h1, h2 => by rw [Ck.join]; exact h1
  | m + 1, .take k n s c, d, S, T, U, hn, o1, o2, h1, h2 => by
    rw [Ck.join]
    exact ⟨h1.1, Ck.gl_joinN m c d _ _ _ (by simp only [Ck.dp] at hn; omega) o1.2 o2 h1.2 h2⟩
  | m + 1, .give c, d, S, T, U, hn, o1, o2, h1, h2 => by
    obtain ⟨rfl, k, e, hp, hc⟩ := o1
    rcases any_inv o2 with ⟨rfl, rfl⟩ | ⟨k', q, s, d', rfl, hd⟩
    · simp only [Ck.join]; exact h1
    · by_cases w : k' = k
      · subst w
        rw [Ck.join, if_pos hp]
        exact Ck.gl_joinN m c d' _ _ _ (by simp only [Ck.dp] at hn; omega) hc hd h1 h2.2
      · rw [Ck.join, if_neg (fun y => w (by rw [hp] at y; cases y; rfl)), hp]
        exact ⟨h2.1, fun y => w y.symm⟩
  | m + 1, .same k, d, S, T, U, hn, o1, o2, h1, h2 => by
    obtain ⟨rfl, rfl, hk⟩ := o1
    rcases same_inv hk o2 with ⟨rfl, rfl⟩ | ⟨rfl, rfl⟩ | ⟨q, s, k', rfl⟩
    · simp only [Ck.join]; exact h1
    · simp only [Ck.join]; exact h2
    · simp only [Ck.join]; exact h2
  | m + 1, .fn a1 a2, d, S, T, U, hn, o1, o2, h1, h2 => by
    obtain ⟨A, B, C, E, rfl, rfl, ha1, ha2⟩ := o1
    obtain ⟨g1, g2⟩ := h1
    simp only [Ck.dp] at hn
    rcases fn_inv o2 with ⟨b1, b2, C2, E2, rfl, rfl, hb1, hb2⟩ | ⟨b1, b2, rfl, rfl, hb1, hb2⟩ | ⟨q, s, k', rfl⟩
    · simp only [Ck.dp] at hn
      obtain ⟨g3, g4⟩ := h2
      rw [Ck.join]
      exact ⟨Ck.gl_joinN m b1 a1 _ _ _ (by omega) hb1 ha1 g3 g1, Ck.gl_joinN m a2 b2 _ _ _ (by omega) ha2 hb2 g2 g4⟩
    · simp only [Ck.dp] at hn
      obtain ⟨g3, g4⟩ := h2
      rw [Ck.join]
      exact ⟨Ck.gl_joinN m b1 a1 _ _ _ (by omega) hb1 ha1 g3 g1, Ck.gl_joinN m a2 b2 _ _ _ (by omega) ha2 hb2 g2 g4⟩
    · simp only [Ck.join]; exact h2
  | m + 1, .pair a1 a2, d, S, T, U, hn, o1, o2, h1, h2 => by
    obtain ⟨A, B, C, E, rfl, rfl, ha1, ha2⟩ := o1
    obtain ⟨g1, g2⟩ := h1
    simp only [Ck.dp] at hn
    rcases pair_inv o2 with ⟨b1, b2, C2, E2, rfl, rfl, hb1, hb2⟩ | ⟨b1, b2, rfl, rfl, hb1, hb2⟩ | ⟨q, s, k', rfl⟩
    · simp only [Ck.dp] at hn
      obtain ⟨g3, g4⟩ := h2
      rw [Ck.join]
      exact ⟨Ck.gl_joinN m a1 b1 _ _ _ (by omega) ha1 hb1 g1 g3, Ck.gl_joinN m a2 b2 _ _ _ (by omega) ha2 hb2 g2 g4⟩
    · simp only [Ck.dp] at hn
      obtain ⟨g3, g4⟩ := h2
      rw [Ck.join]
      exact ⟨Ck.gl_joinN m a1 b1 _ _ _ (by omega) ha1 hb1 g1 g3, Ck.gl_joinN m a2 b2 _ _ _ (by omega) ha2 hb2 g2 g4⟩
    · simp only [Ck.join]; exact h2
  | m + 1, .box a1 a2, d, S, T, U, hn, o1, o2, h1, h2 => by
    obtain ⟨A, C, rfl, rfl, ha1, ha2⟩ := o1
    obtain ⟨g1, g2⟩ := h1
    simp only [Ck.dp] at hn
    rcases box_inv o2 with ⟨b1, b2, C2, rfl, rfl, hb1, hb2⟩ | ⟨b1, b2, rfl, rfl, hb1, hb2⟩ | ⟨q, s, k', rfl⟩
    · simp only [Ck.dp] at hn
      obtain ⟨g3, g4⟩ := h2
      rw [Ck.join]
      exact ⟨Ck.gl_joinN m b1 a1 _ _ _ (by omega) hb1 ha1 g3 g1, Ck.gl_joinN m a2 b2 _ _ _ (by omega) ha2 hb2 g2 g4⟩
    · simp only [Ck.dp] at hn
      obtain ⟨g3, g4⟩ := h2
      rw [Ck.join]
      exact ⟨Ck.gl_joinN m b1 a1 _ _ _ (by omega) hb1 ha1 g3 g1, Ck.gl_joinN m a2 b2 _ _ _ (by omega) ha2 hb2 g2 g4⟩
    · simp only [Ck.join]; exact h2
theorem Ck.gl_join {c d : Ck} {S T U : Ty} (h1 : c.ok S T) (h2 : d.ok T U) (g1 : c.gl) (g2 : d.gl) : (c.join d).gl := Ck.gl_joinN _ c d S T U (Nat.le_refl _) h1 h2 g1 g2
section
variable {P : Prg} {defs : Nat → Option FD}
theorem text_run (h44 : defs 44 = some fd44) {n : Nat} (s : Str) (st : Store) : callF P defs (n + 1) 44 [.str s] st = some (.bl true, st) := by
  rw [callF_on h44]; simp [runD, exSs, exS, evE, evT, evEs, evL, evI, evIfs, evAnd, evOr, evAndT, evOrT, startD, getV, putV, getO, putVs, putT, wipeE, idxD, sliceD, isAbs, partD, biD, one1, lenD, intD, absD, tupleD, listS, max2D, maxD, maxI, intsD, isTD, tyD, isT, binD, cmpD, isD, n_non, n_tup, n_lst, n_int, n_str, n_bl, truD, lstAt, itemsD, forD, compD, turnF, turnC, kept_none, szOk, rg_nat, rangeL, at0, at1, at2, at3, at4, at5, at6, ix0, ix1, gc_same, gc_len, eq_int, eq_str, eq_bl, str_inj, str_beq, cut1, cut2, lr0, lr1, lr2, lr3, lr4, lr5, lr6, lr7, b44]
theorem int_run (h45 : defs 45 = some fd45) {n : Nat} (i : Int) (st : Store) : callF P defs (n + 1) 45 [.int i] st = some (.bl true, st) := by
  rw [callF_on h45]; simp [runD, exSs, exS, evE, evT, evEs, evL, evI, evIfs, evAnd, evOr, evAndT, evOrT, startD, getV, putV, getO, putVs, putT, wipeE, idxD, sliceD, isAbs, partD, biD, one1, lenD, intD, absD, tupleD, listS, max2D, maxD, maxI, intsD, isTD, tyD, isT, binD, cmpD, isD, n_non, n_tup, n_lst, n_int, n_str, n_bl, truD, lstAt, itemsD, forD, compD, turnF, turnC, kept_none, szOk, rg_nat, rangeL, at0, at1, at2, at3, at4, at5, at6, ix0, ix1, gc_same, gc_len, eq_int, eq_str, eq_bl, str_inj, str_beq, cut1, cut2, lr0, lr1, lr2, lr3, lr4, lr5, lr6, lr7, b45]
theorem row_run (h44 : defs 44 = some fd44) (h46 : defs 46 = some fd46) {n : Nat} (s t : Str) (l : List D) (k : Int) (st : Store) : callF P defs (n + 2) 46 [.tup (.str s :: l), .str t, .int k] st = some (.bl (decide ((l.length : Int) + 1 = k) && (s == t)), st) := by
  have e := text_run (P := P) h44 (n := n) s st
  rw [callF_on h46]
  by_cases h : (l.length : Int) + 1 = k
  · simp [runD, exSs, exS, evE, evT, evEs, evL, evI, evIfs, evAnd, evOr, evAndT, evOrT, startD, getV, putV, getO, putVs, putT, wipeE, idxD, sliceD, isAbs, partD, biD, one1, lenD, intD, absD, tupleD, listS, max2D, maxD, maxI, intsD, isTD, tyD, isT, binD, cmpD, isD, n_non, n_tup, n_lst, n_int, n_str, n_bl, truD, lstAt, itemsD, forD, compD, turnF, turnC, kept_none, szOk, rg_nat, rangeL, at0, at1, at2, at3, at4, at5, at6, ix0, ix1, gc_same, gc_len, eq_int, eq_str, eq_bl, str_inj, str_beq, cut1, cut2, lr0, lr1, lr2, lr3, lr4, lr5, lr6, lr7, b46, e, h]
  · have h2 : ((l.length : Int) + 1 == k) = false := by simp [h]
    simp [runD, exSs, exS, evE, evT, evEs, evL, evI, evIfs, evAnd, evOr, evAndT, evOrT, startD, getV, putV, getO, putVs, putT, wipeE, idxD, sliceD, isAbs, partD, biD, one1, lenD, intD, absD, tupleD, listS, max2D, maxD, maxI, intsD, isTD, tyD, isT, binD, cmpD, isD, n_non, n_tup, n_lst, n_int, n_str, n_bl, truD, lstAt, itemsD, forD, compD, turnF, turnC, kept_none, szOk, rg_nat, rangeL, at0, at1, at2, at3, at4, at5, at6, ix0, ix1, gc_same, gc_len, eq_int, eq_str, eq_bl, str_inj, str_beq, cut1, cut2, lr0, lr1, lr2, lr3, lr4, lr5, lr6, lr7, b46, e, h, h2]
theorem grd_run (hs : P.glob 1 = some (.tup [.str "int", .str "bool", .str "unit"])) (hc : P.glob 2 = some (.tup [.str "fun", .str "pair", .str "box"])) (h44 : defs 44 = some fd44) (h49 : defs 49 = some fd49) (k : Kd) {n : Nat} (st : Store) : callF P defs (n + 2) 49 [.str k.s] st = some (.bl true, st) := by
  have e := text_run (P := P) h44 (n := n) k.s st
  rw [callF_on h49]
  cases k <;> simp only [Kd.s] at e ⊢ <;> simp [runD, exSs, exS, evE, evT, evEs, evL, evI, evIfs, evAnd, evOr, evAndT, evOrT, startD, getV, putV, getO, putVs, putT, wipeE, idxD, sliceD, isAbs, partD, biD, one1, lenD, intD, absD, tupleD, listS, max2D, maxD, maxI, intsD, isTD, tyD, isT, binD, cmpD, isD, n_non, n_tup, n_lst, n_int, n_str, n_bl, truD, lstAt, itemsD, forD, compD, turnF, turnC, kept_none, szOk, rg_nat, rangeL, at0, at1, at2, at3, at4, at5, at6, ix0, ix1, gc_same, gc_len, eq_int, eq_str, eq_bl, str_inj, str_beq, cut1, cut2, lr0, lr1, lr2, lr3, lr4, lr5, lr6, lr7, b49, e, hs, hc, in3, inF]
theorem label_run (h45 : defs 45 = some fd45) (h48 : defs 48 = some fd48) {a s : Int} (h0 : 0 ≤ a) (h1 : s = 0 ∨ s = 1) {n : Nat} (st : Store) : callF P defs (n + 2) 48 [.tup [.int a, .int s]] st = some (.bl true, st) := by
  have e1 := int_run (P := P) h45 (n := n) a st
  have e2 := int_run (P := P) h45 (n := n) s st
  have i0 : inD (.int 0) [.int 0, .int 1] = some true := rfl
  have i1 : inD (.int 1) [.int 0, .int 1] = some true := rfl
  rw [callF_on h48]
  rcases h1 with rfl | rfl
  · simp [runD, exSs, exS, evE, evT, evEs, evL, evI, evIfs, evAnd, evOr, evAndT, evOrT, startD, getV, putV, getO, putVs, putT, wipeE, idxD, sliceD, isAbs, partD, biD, one1, lenD, intD, absD, tupleD, listS, max2D, maxD, maxI, intsD, isTD, tyD, isT, binD, cmpD, isD, n_non, n_tup, n_lst, n_int, n_str, n_bl, truD, lstAt, itemsD, forD, compD, turnF, turnC, kept_none, szOk, rg_nat, rangeL, at0, at1, at2, at3, at4, at5, at6, ix0, ix1, gc_same, gc_len, eq_int, eq_str, eq_bl, str_inj, str_beq, cut1, cut2, lr0, lr1, lr2, lr3, lr4, lr5, lr6, lr7, b48, e1, e2, h0, i0]
  · simp [runD, exSs, exS, evE, evT, evEs, evL, evI, evIfs, evAnd, evOr, evAndT, evOrT, startD, getV, putV, getO, putVs, putT, wipeE, idxD, sliceD, isAbs, partD, biD, one1, lenD, intD, absD, tupleD, listS, max2D, maxD, maxI, intsD, isTD, tyD, isT, binD, cmpD, isD, n_non, n_tup, n_lst, n_int, n_str, n_bl, truD, lstAt, itemsD, forD, compD, turnF, turnC, kept_none, szOk, rg_nat, rangeL, at0, at1, at2, at3, at4, at5, at6, ix0, ix1, gc_same, gc_len, eq_int, eq_str, eq_bl, str_inj, str_beq, cut1, cut2, lr0, lr1, lr2, lr3, lr4, lr5, lr6, lr7, b48, e1, e2, h0, i1]
variable (hs : P.glob 1 = some (.tup [.str "int", .str "bool", .str "unit"])) (hc : P.glob 2 = some (.tup [.str "fun", .str "pair", .str "box"])) (h26 : defs 26 = some fd26) (h44 : defs 44 = some fd44) (h45 : defs 45 = some fd45) (h46 : defs 46 = some fd46) (h47 : defs 47 = some fd47) (h48 : defs 48 = some fd48) (h49 : defs 49 = some fd49) (h50 : defs 50 = some fd50) (h51 : defs 51 = some fd51) (h52 : defs 52 = some fd52)
include hs hc h44 h45 h46 h48 h49 h50
/-- is it a fail -/
def Ck.isf : Ck → Bool
  | .fail _ _ _ _ => true
  | _ => false
theorem fail_run {c : Ck} (g : c.gl) {n : Nat} (st : Store) : callF P defs (n + 4) 50 [c.d] st = some (.bl c.isf, st) := by
  have r := fun s t l k => row_run (P := P) h44 h46 (n := n + 1) s t l k st
  have gr := fun k => grd_run (P := P) hs hc h44 h49 k (n := n + 1) st
  rw [callF_on h50]
  cases c with
  | fail k q s k' =>
    have lb := label_run (P := P) h45 h48 g.1.1 g.1.2.2 (n := n + 1) st
    have ne := kd_ne g.2
    simp [runD, exSs, exS, evE, evT, evEs, evL, evI, evIfs, evAnd, evOr, evAndT, evOrT, startD, getV, putV, getO, putVs, putT, wipeE, idxD, sliceD, isAbs, partD, biD, one1, lenD, intD, absD, tupleD, listS, max2D, maxD, maxI, intsD, isTD, tyD, isT, binD, cmpD, isD, n_non, n_tup, n_lst, n_int, n_str, n_bl, truD, lstAt, itemsD, forD, compD, turnF, turnC, kept_none, szOk, rg_nat, rangeL, at0, at1, at2, at3, at4, at5, at6, ix0, ix1, gc_same, gc_len, eq_int, eq_str, eq_bl, str_inj, str_beq, cut1, cut2, lr0, lr1, lr2, lr3, lr4, lr5, lr6, lr7, b50, Ck.d, Ck.isf, r, gr, lb, ne]
  | _ => simp [runD, exSs, exS, evE, evT, evEs, evL, evI, evIfs, evAnd, evOr, evAndT, evOrT, startD, getV, putV, getO, putVs, putT, wipeE, idxD, sliceD, isAbs, partD, biD, one1, lenD, intD, absD, tupleD, listS, max2D, maxD, maxI, intsD, isTD, tyD, isT, binD, cmpD, isD, n_non, n_tup, n_lst, n_int, n_str, n_bl, truD, lstAt, itemsD, forD, compD, turnF, turnC, kept_none, szOk, rg_nat, rangeL, at0, at1, at2, at3, at4, at5, at6, ix0, ix1, gc_same, gc_len, eq_int, eq_str, eq_bl, str_inj, str_beq, cut1, cut2, lr0, lr1, lr2, lr3, lr4, lr5, lr6, lr7, b50, Ck.d, Ck.isf, r]
omit hs h45 h48 h49 h50
include h51
/-- not a plain check -/
theorem nplain_run {c : Ck} (hp : c.pg = none) {n : Nat} {room : Int} (hr : 1 ≤ room) (st : Store) : callF P defs (n + 3) 51 [c.d, .int room] st = some (.bl false, st) := by
  have r := fun s t l k => row_run (P := P) h44 h46 (n := n) s t l k st
  have nr : ¬ room < 1 := by omega
  rw [callF_on h51]
  cases c <;> first | (cases hp; done) | skip
  all_goals simp [runD, exSs, exS, evE, evT, evEs, evL, evI, evIfs, evAnd, evOr, evAndT, evOrT, startD, getV, putV, getO, putVs, putT, wipeE, idxD, sliceD, isAbs, partD, biD, one1, lenD, intD, absD, tupleD, listS, max2D, maxD, maxI, intsD, isTD, tyD, isT, binD, cmpD, isD, n_non, n_tup, n_lst, n_int, n_str, n_bl, truD, lstAt, itemsD, forD, compD, turnF, turnC, kept_none, szOk, rg_nat, rangeL, at0, at1, at2, at3, at4, at5, at6, ix0, ix1, gc_same, gc_len, eq_int, eq_str, eq_bl, str_inj, str_beq, cut1, cut2, lr0, lr1, lr2, lr3, lr4, lr5, lr6, lr7, b51, Ck.d, r, hc, nr]
omit h51
include hs h26 h45 h47 h48 h49 h50 h51 h52
theorem is_run : ∀ (m : Nat) (c : Ck) (S T : Ty), c.dp ≤ m → c.ok S T → c.gl →
    (∀ k, c.pg = some k → ∀ (n : Nat) (room : Int) (st : Store), 3 * c.dp + 4 ≤ n → (c.ht : Int) ≤ room → callF P defs n 51 [c.d, .int room] st = some (.bl true, st)) ∧
    (∀ (n : Nat) (room : Int) (st : Store), 3 * c.dp + 5 ≤ n → (c.ht : Int) ≤ room → callF P defs n 47 [c.d, .int room] st = some (.bl true, st))
  | 0, c, S, T, hm, _, _ => by have := c.dp_pos; omega
  | m + 1, c, S, T, hm, ok, g => by
    have hp0 := c.ht_pos
    have hd0 := c.dp_pos
    have plain : ∀ k, c.pg = some k → ∀ (n : Nat) (room : Int) (st : Store), 3 * c.dp + 4 ≤ n → (c.ht : Int) ≤ room → callF P defs n 51 [c.d, .int room] st = some (.bl true, st) := fun k hp n room st hn hr => by
      obtain ⟨n, rfl⟩ : ∃ j, n = j + 3 := ⟨n - 3, by omega⟩
      have r := fun s t l k => row_run (P := P) h44 h46 (n := n) s t l k st
      have nr : ¬ room < 1 := by omega
      have two : ∀ (s : String) (a b : Ck), c.d = .tup [.str s, a.d, b.d] → (s = "fun" ∨ s = "pair" ∨ s = "box") → (∀ room', room' = room - 1 → callF P defs (n + 2) 47 [a.d, .int room'] st = some (.bl true, st) ∧ callF P defs (n + 2) 47 [b.d, .int room'] st = some (.bl true, st)) → callF P defs (n + 3) 51 [c.d, .int room] st = some (.bl true, st) := fun s a b e hs' q => by
        obtain ⟨q1, q2⟩ := q _ rfl
        rw [e, callF_on h51]
        rcases hs' with rfl | rfl | rfl <;> simp [runD, exSs, exS, evE, evT, evEs, evL, evI, evIfs, evAnd, evOr, evAndT, evOrT, startD, getV, putV, getO, putVs, putT, wipeE, idxD, sliceD, isAbs, partD, biD, one1, lenD, intD, absD, tupleD, listS, max2D, maxD, maxI, intsD, isTD, tyD, isT, binD, cmpD, isD, n_non, n_tup, n_lst, n_int, n_str, n_bl, truD, lstAt, itemsD, forD, compD, turnF, turnC, kept_none, szOk, rg_nat, rangeL, at0, at1, at2, at3, at4, at5, at6, ix0, ix1, gc_same, gc_len, eq_int, eq_str, eq_bl, str_inj, str_beq, cut1, cut2, lr0, lr1, lr2, lr3, lr4, lr5, lr6, lr7, b51, r, hc, nr, q1, q2]
      cases c with
      | same k =>
        obtain ⟨_, _, hk⟩ := ok
        have e := text_run (P := P) h44 (n := n + 1) k.s st
        rw [callF_on h51]
        rcases hk with rfl | rfl | rfl <;> simp only [Kd.s] at e <;> simp [runD, exSs, exS, evE, evT, evEs, evL, evI, evIfs, evAnd, evOr, evAndT, evOrT, startD, getV, putV, getO, putVs, putT, wipeE, idxD, sliceD, isAbs, partD, biD, one1, lenD, intD, absD, tupleD, listS, max2D, maxD, maxI, intsD, isTD, tyD, isT, binD, cmpD, isD, n_non, n_tup, n_lst, n_int, n_str, n_bl, truD, lstAt, itemsD, forD, compD, turnF, turnC, kept_none, szOk, rg_nat, rangeL, at0, at1, at2, at3, at4, at5, at6, ix0, ix1, gc_same, gc_len, eq_int, eq_str, eq_bl, str_inj, str_beq, cut1, cut2, lr0, lr1, lr2, lr3, lr4, lr5, lr6, lr7, b51, Ck.d, Kd.s, r, nr, e, hs, in3]
      | fn a b =>
        obtain ⟨A, B, C, E, rfl, rfl, ha, hb⟩ := ok
        simp only [Ck.dp, Ck.ht] at hm hn hr
        exact two "fun" a b rfl (.inl rfl) fun room' e => ⟨(is_run m a _ _ (by omega) ha g.1).2 _ _ st (by omega) (by omega), (is_run m b _ _ (by omega) hb g.2).2 _ _ st (by omega) (by omega)⟩
      | pair a b =>
        obtain ⟨A, B, C, E, rfl, rfl, ha, hb⟩ := ok
        simp only [Ck.dp, Ck.ht] at hm hn hr
        exact two "pair" a b rfl (.inr (.inl rfl)) fun room' e => ⟨(is_run m a _ _ (by omega) ha g.1).2 _ _ st (by omega) (by omega), (is_run m b _ _ (by omega) hb g.2).2 _ _ st (by omega) (by omega)⟩
      | box a b =>
        obtain ⟨A, C, rfl, rfl, ha, hb⟩ := ok
        simp only [Ck.dp, Ck.ht] at hm hn hr
        exact two "box" a b rfl (.inr (.inr rfl)) fun room' e => ⟨(is_run m a _ _ (by omega) ha g.1).2 _ _ st (by omega) (by omega), (is_run m b _ _ (by omega) hb g.2).2 _ _ st (by omega) (by omega)⟩
      | any => cases hp
      | give c => cases hp
      | take _ _ _ _ => cases hp
      | fail _ _ _ _ => cases hp
    refine ⟨plain, fun n room st hn hr => ?_⟩
    obtain ⟨n, rfl⟩ : ∃ j, n = j + 6 := ⟨n - 6, by omega⟩
    have r := fun s t l k => row_run (P := P) h44 h46 (n := n + 3) s t l k st
    have nr : ¬ room < 1 := by omega
    have fr := fail_run (P := P) hs hc h44 h45 h46 h48 h49 h50 g (n := n + 1) st
    have pl : ∀ k, c.pg = some k → callF P defs (n + 6) 47 [c.d, .int room] st = some (.bl true, st) := fun k hp => by
      have e := plain k hp (n + 5) room st (by omega) hr
      rw [callF_on h47]
      cases c <;> first | (cases hp; done) | skip
      all_goals simp only [Ck.d, Ck.isf] at e fr ⊢
      all_goals simp [runD, exSs, exS, evE, evT, evEs, evL, evI, evIfs, evAnd, evOr, evAndT, evOrT, startD, getV, putV, getO, putVs, putT, wipeE, idxD, sliceD, isAbs, partD, biD, one1, lenD, intD, absD, tupleD, listS, max2D, maxD, maxI, intsD, isTD, tyD, isT, binD, cmpD, isD, n_non, n_tup, n_lst, n_int, n_str, n_bl, truD, lstAt, itemsD, forD, compD, turnF, turnC, kept_none, szOk, rg_nat, rangeL, at0, at1, at2, at3, at4, at5, at6, ix0, ix1, gc_same, gc_len, eq_int, eq_str, eq_bl, str_inj, str_beq, cut1, cut2, lr0, lr1, lr2, lr3, lr4, lr5, lr6, lr7, b47, r, nr, e, fr]
    cases c with
    | any => rw [callF_on h47]; simp [runD, exSs, exS, evE, evT, evEs, evL, evI, evIfs, evAnd, evOr, evAndT, evOrT, startD, getV, putV, getO, putVs, putT, wipeE, idxD, sliceD, isAbs, partD, biD, one1, lenD, intD, absD, tupleD, listS, max2D, maxD, maxI, intsD, isTD, tyD, isT, binD, cmpD, isD, n_non, n_tup, n_lst, n_int, n_str, n_bl, truD, lstAt, itemsD, forD, compD, turnF, turnC, kept_none, szOk, rg_nat, rangeL, at0, at1, at2, at3, at4, at5, at6, ix0, ix1, gc_same, gc_len, eq_int, eq_str, eq_bl, str_inj, str_beq, cut1, cut2, lr0, lr1, lr2, lr3, lr4, lr5, lr6, lr7, b47, Ck.d, r, nr]
    | fail k q s k' =>
      simp only [Ck.isf, Ck.d] at fr
      rw [callF_on h47]; simp [runD, exSs, exS, evE, evT, evEs, evL, evI, evIfs, evAnd, evOr, evAndT, evOrT, startD, getV, putV, getO, putVs, putT, wipeE, idxD, sliceD, isAbs, partD, biD, one1, lenD, intD, absD, tupleD, listS, max2D, maxD, maxI, intsD, isTD, tyD, isT, binD, cmpD, isD, n_non, n_tup, n_lst, n_int, n_str, n_bl, truD, lstAt, itemsD, forD, compD, turnF, turnC, kept_none, szOk, rg_nat, rangeL, at0, at1, at2, at3, at4, at5, at6, ix0, ix1, gc_same, gc_len, eq_int, eq_str, eq_bl, str_inj, str_beq, cut1, cut2, lr0, lr1, lr2, lr3, lr4, lr5, lr6, lr7, b47, Ck.d, r, nr, fr]
    | same k => exact pl _ rfl
    | fn a b => exact pl _ rfl
    | pair a b => exact pl _ rfl
    | box a b => exact pl _ rfl
    | give c =>
      obtain ⟨_, k, _, hp, hc'⟩ := ok
      simp only [Ck.dp, Ck.ht] at hm hn hr
      have e := (is_run m c _ _ (by omega) hc' g).1 k hp (n + 5) room st (by omega) hr
      have np := nplain_run (P := P) hc h44 h46 h51 (c := .give c) rfl (n := n + 2) (room := room) (by omega) st
      simp only [Ck.isf, Ck.d] at fr np
      rw [callF_on h47]; simp [runD, exSs, exS, evE, evT, evEs, evL, evI, evIfs, evAnd, evOr, evAndT, evOrT, startD, getV, putV, getO, putVs, putT, wipeE, idxD, sliceD, isAbs, partD, biD, one1, lenD, intD, absD, tupleD, listS, max2D, maxD, maxI, intsD, isTD, tyD, isT, binD, cmpD, isD, n_non, n_tup, n_lst, n_int, n_str, n_bl, truD, lstAt, itemsD, forD, compD, turnF, turnC, kept_none, szOk, rg_nat, rangeL, at0, at1, at2, at3, at4, at5, at6, ix0, ix1, gc_same, gc_len, eq_int, eq_str, eq_bl, str_inj, str_beq, cut1, cut2, lr0, lr1, lr2, lr3, lr4, lr5, lr6, lr7, b47, Ck.d, r, nr, fr, np, e]
    | take k q s c =>
      simp only [Ck.dp, Ck.ht] at hm hn hr
      have np := nplain_run (P := P) hc h44 h46 h51 (c := .take k q s c) rfl (n := n + 2) (room := room) (by omega) st
      have gr := grd_run (P := P) hs hc h44 h49 k (n := n + 3) st
      have lb := label_run (P := P) h45 h48 g.1.1 g.1.2.2 (n := n + 3) st
      have fr2 := fail_run (P := P) hs hc h44 h45 h46 h48 h49 h50 g.2 (n := n) st
      have r2 := fun s t l k => row_run (P := P) h44 h46 (n := n + 2) s t l k st
      have ee : callF P defs (n + 5) 52 [c.d, .str k.s, .int room] st = some (.bl true, st) := by
        have pe : ∀ k', c.pg = some k' → callF P defs (n + 5) 52 [c.d, .str k.s, .int room] st = some (.bl true, st) := fun k' hp => by
          obtain ⟨z1, _⟩ := Ck.plain_ok ok.2 hp
          rw [Kd.base_kd] at z1
          cases z1
          have e := (is_run m c _ _ (by omega) ok.2 g.2).1 k hp (n + 4) room st (by omega) hr
          have pg := pground_run (P := P) h26 hp (n := n + 3) st
          rw [callF_on h52]
          cases c <;> first | (cases hp; done) | skip
          all_goals simp only [Ck.d, Ck.isf] at e fr2 pg ⊢
          all_goals simp [runD, exSs, exS, evE, evT, evEs, evL, evI, evIfs, evAnd, evOr, evAndT, evOrT, startD, getV, putV, getO, putVs, putT, wipeE, idxD, sliceD, isAbs, partD, biD, one1, lenD, intD, absD, tupleD, listS, max2D, maxD, maxI, intsD, isTD, tyD, isT, binD, cmpD, isD, n_non, n_tup, n_lst, n_int, n_str, n_bl, truD, lstAt, itemsD, forD, compD, turnF, turnC, kept_none, szOk, rg_nat, rangeL, at0, at1, at2, at3, at4, at5, at6, ix0, ix1, gc_same, gc_len, eq_int, eq_str, eq_bl, str_inj, str_beq, cut1, cut2, lr0, lr1, lr2, lr3, lr4, lr5, lr6, lr7, b52, r2, e, fr2, pg]
        cases c with
        | any => exact (base_ne ok.2.1).elim
        | take k2 _ _ _ => exact (base_ne ok.2.1).elim
        | fail k2 q2 s2 k3 =>
          have hk : k.base.kd = some k2 := ok.2
          rw [Kd.base_kd] at hk
          cases hk
          simp only [Ck.isf, Ck.d] at fr2
          rw [callF_on h52]; simp [runD, exSs, exS, evE, evT, evEs, evL, evI, evIfs, evAnd, evOr, evAndT, evOrT, startD, getV, putV, getO, putVs, putT, wipeE, idxD, sliceD, isAbs, partD, biD, one1, lenD, intD, absD, tupleD, listS, max2D, maxD, maxI, intsD, isTD, tyD, isT, binD, cmpD, isD, n_non, n_tup, n_lst, n_int, n_str, n_bl, truD, lstAt, itemsD, forD, compD, turnF, turnC, kept_none, szOk, rg_nat, rangeL, at0, at1, at2, at3, at4, at5, at6, ix0, ix1, gc_same, gc_len, eq_int, eq_str, eq_bl, str_inj, str_beq, cut1, cut2, lr0, lr1, lr2, lr3, lr4, lr5, lr6, lr7, b52, Ck.d, fr2]
        | give c =>
          obtain ⟨_, k2, hk, hp, hc'⟩ := ok.2
          rw [Kd.base_kd] at hk
          cases hk
          simp only [Ck.dp, Ck.ht] at hm hn hr
          have e := (is_run m c _ _ (by omega) hc' g.2).1 k hp (n + 4) room st (by omega) hr
          have pg := pground_run (P := P) h26 hp (n := n + 3) st
          simp only [Ck.isf, Ck.d] at fr2
          rw [callF_on h52]; simp [runD, exSs, exS, evE, evT, evEs, evL, evI, evIfs, evAnd, evOr, evAndT, evOrT, startD, getV, putV, getO, putVs, putT, wipeE, idxD, sliceD, isAbs, partD, biD, one1, lenD, intD, absD, tupleD, listS, max2D, maxD, maxI, intsD, isTD, tyD, isT, binD, cmpD, isD, n_non, n_tup, n_lst, n_int, n_str, n_bl, truD, lstAt, itemsD, forD, compD, turnF, turnC, kept_none, szOk, rg_nat, rangeL, at0, at1, at2, at3, at4, at5, at6, ix0, ix1, gc_same, gc_len, eq_int, eq_str, eq_bl, str_inj, str_beq, cut1, cut2, lr0, lr1, lr2, lr3, lr4, lr5, lr6, lr7, b52, Ck.d, fr2, r2, e, pg]
        | same k => exact pe _ rfl
        | fn a b => exact pe _ rfl
        | pair a b => exact pe _ rfl
        | box a b => exact pe _ rfl
      simp only [Ck.isf, Ck.d] at fr np
      rw [callF_on h47]; simp [runD, exSs, exS, evE, evT, evEs, evL, evI, evIfs, evAnd, evOr, evAndT, evOrT, startD, getV, putV, getO, putVs, putT, wipeE, idxD, sliceD, isAbs, partD, biD, one1, lenD, intD, absD, tupleD, listS, max2D, maxD, maxI, intsD, isTD, tyD, isT, binD, cmpD, isD, n_non, n_tup, n_lst, n_int, n_str, n_bl, truD, lstAt, itemsD, forD, compD, turnF, turnC, kept_none, szOk, rg_nat, rangeL, at0, at1, at2, at3, at4, at5, at6, ix0, ix1, gc_same, gc_len, eq_int, eq_str, eq_bl, str_inj, str_beq, cut1, cut2, lr0, lr1, lr2, lr3, lr4, lr5, lr6, lr7, b47, Ck.d, r, nr, fr, np, gr, lb, ee]
theorem check_run (h58 : defs 58 = some fd58) (hm : P.glob 3 = some (.int 60)) {c : Ck} {S T : Ty} (ok : c.ok S T) (g : c.gl) (hh : c.ht ≤ 60) {n : Nat} (hn : 3 * c.dp + 5 ≤ n) (st : Store) : callF P defs (n + 1) 58 [c.d] st = some (.bl true, st) := by
  have e := (is_run hs hc h26 h44 h45 h46 h47 h48 h49 h50 h51 h52 _ c S T (Nat.le_refl _) ok g).2 n 60 st hn (by omega)
  rw [callF_on h58]; simp [runD, exSs, exS, evE, evT, evEs, evL, evI, evIfs, evAnd, evOr, evAndT, evOrT, startD, getV, putV, getO, putVs, putT, wipeE, idxD, sliceD, isAbs, partD, biD, one1, lenD, intD, absD, tupleD, listS, max2D, maxD, maxI, intsD, isTD, tyD, isT, binD, cmpD, isD, n_non, n_tup, n_lst, n_int, n_str, n_bl, truD, lstAt, itemsD, forD, compD, turnF, turnC, kept_none, szOk, rg_nat, rangeL, at0, at1, at2, at3, at4, at5, at6, ix0, ix1, gc_same, gc_len, eq_int, eq_str, eq_bl, str_inj, str_beq, cut1, cut2, lr0, lr1, lr2, lr3, lr4, lr5, lr6, lr7, b58, hm, e]
end
end HN

set_option maxHeartbeats 0
/-! Types: which side of a cast is safe. -/
namespace HN
open PySem L2
/-- safe -/
def b19 : Ss := (.cons (.ite (.cmp .eq (.var 0) (.glob 0)) (.cons (.ret (.or (.cons (.cmp .eq (.var 1) (.glob 0)) (.cons (.cmp .eq (.var 2) (.int 0)) .nil)))) .nil) .nil) (.cons (.ite (.cmp .eq (.var 1) (.glob 0)) (.cons (.ret (.or (.cons (.cmp .eq (.var 2) (.int 1)) (.cons (.callK 19 (.cons (.var 0) (.cons (.call 13 (.cons (.call 12 (.cons (.var 0) .nil)) .nil)) .nil)) (.cons (.int 0) .nil)) .nil)))) .nil) .nil) (.cons (.ite (.cmp .ne (.idx (.var 0) (.int 0)) (.idx (.var 1) (.int 0))) (.cons (.ret (.bl false)) .nil) .nil) (.cons (.ret (.call 20 (.cons (.var 0) (.cons (.var 1) (.cons (.var 2) .nil))))) .nil))))
abbrev fd19 : FD := ⟨3, 3, b19⟩
/-- safe_parts -/
def b20 : Ss := (.cons (.set 3 (.bin .sub (.int 1) (.var 2))) (.cons (.ite (.cmp .eq (.idx (.var 0) (.int 0)) (.str "fun")) (.cons (.ret (.and (.cons (.callK 19 (.cons (.idx (.var 1) (.int 1)) (.cons (.idx (.var 0) (.int 1)) .nil)) (.cons (.var 3) .nil)) (.cons (.callK 19 (.cons (.idx (.var 0) (.int 2)) (.cons (.idx (.var 1) (.int 2)) .nil)) (.cons (.var 2) .nil)) .nil)))) .nil) .nil) (.cons (.ite (.cmp .eq (.idx (.var 0) (.int 0)) (.str "pair")) (.cons (.ret (.and (.cons (.callK 19 (.cons (.idx (.var 0) (.int 1)) (.cons (.idx (.var 1) (.int 1)) .nil)) (.cons (.var 2) .nil)) (.cons (.callK 19 (.cons (.idx (.var 0) (.int 2)) (.cons (.idx (.var 1) (.int 2)) .nil)) (.cons (.var 2) .nil)) .nil)))) .nil) .nil) (.cons (.ite (.cmp .eq (.idx (.var 0) (.int 0)) (.str "box")) (.cons (.ret (.and (.cons (.callK 19 (.cons (.idx (.var 0) (.int 1)) (.cons (.idx (.var 1) (.int 1)) .nil)) (.cons (.var 2) .nil)) (.cons (.callK 19 (.cons (.idx (.var 1) (.int 1)) (.cons (.idx (.var 0) (.int 1)) .nil)) (.cons (.var 3) .nil)) .nil)))) .nil) .nil) (.cons (.ret (.bl true)) .nil)))))
abbrev fd20 : FD := ⟨3, 4, b20⟩

def Ty.sf : Bool → Ty → Ty → Bool
  | s, .any, b => decide (b = .any) || !s
  | s, .fn a1 a2, .any => s || (decide (a1 = .any) && Ty.sf false a2 .any)
  | s, .pair a1 a2, .any => s || (Ty.sf false a1 .any && Ty.sf false a2 .any)
  | s, .box a1, .any => s || (Ty.sf false a1 .any && decide (a1 = .any))
  | s, .fn a1 a2, .fn c1 c2 => Ty.sf (!s) c1 a1 && Ty.sf s a2 c2
  | s, .pair a1 a2, .pair c1 c2 => Ty.sf s a1 c1 && Ty.sf s a2 c2
  | s, .box a1, .box c1 => Ty.sf s a1 c1 && Ty.sf (!s) c1 a1
  | _, .int, .int => true
  | _, .bool, .bool => true
  | _, .unit, .unit => true
  | _, .int, .any => true
  | _, .bool, .any => true
  | _, .unit, .any => true
  | _, _, _ => false
termination_by _ a b => sizeOf a + sizeOf b
def Ty.same : Ty → Ty → Bool
  | .any, .any => true
  | .int, .int => true
  | .bool, .bool => true
  | .unit, .unit => true
  | .fn _ _, .fn _ _ => true
  | .pair _ _, .pair _ _ => true
  | .box _, .box _ => true
  | _, _ => false
mutual
theorem Ty.sf0 : ∀ (a b : Ty), a.le b = true → Ty.sf false a b = true
  | .any, b, h => by simp [Ty.sf]
  | .int, b, h => by cases b <;> first | exact nb h | simp [Ty.sf]
  | .bool, b, h => by cases b <;> first | exact nb h | simp [Ty.sf]
  | .unit, b, h => by cases b <;> first | exact nb h | simp [Ty.sf]
  | .fn a1 a2, b, h => by
    cases b <;> first | exact nb h | skip
    obtain ⟨h1, h2⟩ := and2 h
    simp [Ty.sf, Ty.sf1 _ _ h1, Ty.sf0 _ _ h2]
  | .pair a1 a2, b, h => by
    cases b <;> first | exact nb h | skip
    obtain ⟨h1, h2⟩ := and2 h
    simp [Ty.sf, Ty.sf0 _ _ h1, Ty.sf0 _ _ h2]
  | .box a1, b, h => by
    cases b <;> first | exact nb h | skip
    have h : a1.le _ = true := h
    simp [Ty.sf, Ty.sf0 _ _ h, Ty.sf1 _ _ h]
theorem Ty.sf1 : ∀ (b a : Ty), b.le a = true → Ty.sf true a b = true
  | .any, a, h => by cases a <;> simp [Ty.sf]
  | .int, a, h => by cases a <;> first | exact nb h | simp [Ty.sf]
  | .bool, a, h => by cases a <;> first | exact nb h | simp [Ty.sf]
  | .unit, a, h => by cases a <;> first | exact nb h | simp [Ty.sf]
  | .fn a1 a2, a, h => by
    cases a <;> first | exact nb h | skip
    obtain ⟨h1, h2⟩ := and2 h
    simp [Ty.sf, Ty.sf0 _ _ h1, Ty.sf1 _ _ h2]
  | .pair a1 a2, a, h => by
    cases a <;> first | exact nb h | skip
    obtain ⟨h1, h2⟩ := and2 h
    simp [Ty.sf, Ty.sf1 _ _ h1, Ty.sf1 _ _ h2]
  | .box a1, a, h => by
    cases a <;> first | exact nb h | skip
    have h : a1.le _ = true := h
    simp [Ty.sf, Ty.sf0 _ _ h, Ty.sf1 _ _ h]
end
theorem Ty.sf_base (a : Ty) (h : a = a.base) : Ty.sf false a .any = true := by
  cases a <;> simp_all [Ty.base, Ty.sf]
section
variable {P : Prg} {defs : Nat → Option FD}
/-- safe answers at this number of calls, up to this height -/
structure SafeAt (P : Prg) (defs : Nat → Option FD) (f j k : Nat) : Prop where
  s0 : ∀ (a b : Ty) (S : Store), a.h + b.h ≤ k → callF P defs j f [a.d, b.d, .int 0] S = some (.bl (Ty.sf false a b), S)
  s1 : ∀ (a b : Ty) (S : Store), a.h + b.h ≤ k → callF P defs j f [a.d, b.d, .int 1] S = some (.bl (Ty.sf true a b), S)
theorem parts_ok (h : defs 20 = some fd20) {j k : Nat} (ih : SafeAt P defs 19 j k) (s : Bool) : ∀ (a b : Ty) (S : Store), a.h + b.h ≤ k + 2 → a.same b = true → a ≠ .any → callF P defs (j + 1) 20 [a.d, b.d, .int (if s then 1 else 0)] S = some (.bl (Ty.sf s a b), S)
  | .int, b, S, hk, hs, _ => by rw [callF_on h]; cases b <;> first | exact nb hs | (cases s <;> simp [runD, exSs, exS, evE, evT, evEs, evL, evI, evIfs, evAnd, evOr, evAndT, evOrT, startD, getV, putV, getO, putVs, putT, wipeE, idxD, sliceD, isAbs, partD, biD, one1, lenD, intD, absD, tupleD, listS, max2D, maxD, maxI, intsD, isTD, tyD, isT, binD, cmpD, isD, n_non, n_tup, n_lst, n_int, n_str, n_bl, truD, lstAt, itemsD, forD, compD, turnF, turnC, kept_none, szOk, rg_nat, rangeL, at0, at1, at2, at3, at4, at5, at6, ix0, ix1, gc_same, gc_len, eq_int, eq_str, eq_bl, str_inj, str_beq, cut1, cut2, lr0, lr1, lr2, lr3, lr4, lr5, lr6, lr7, b20, Ty.d, eqA, eqA0, D.dataL, Ty.data, Ty.sf])
  | .bool, b, S, hk, hs, _ => by rw [callF_on h]; cases b <;> first | exact nb hs | (cases s <;> simp [runD, exSs, exS, evE, evT, evEs, evL, evI, evIfs, evAnd, evOr, evAndT, evOrT, startD, getV, putV, getO, putVs, putT, wipeE, idxD, sliceD, isAbs, partD, biD, one1, lenD, intD, absD, tupleD, listS, max2D, maxD, maxI, intsD, isTD, tyD, isT, binD, cmpD, isD, n_non, n_tup, n_lst, n_int, n_str, n_bl, truD, lstAt, itemsD, forD, compD, turnF, turnC, kept_none, szOk, rg_nat, rangeL, at0, at1, at2, at3, at4, at5, at6, ix0, ix1, gc_same, gc_len, eq_int, eq_str, eq_bl, str_inj, str_beq, cut1, cut2, lr0, lr1, lr2, lr3, lr4, lr5, lr6, lr7, b20, Ty.d, eqA, eqA0, D.dataL, Ty.data, Ty.sf])
  | .unit, b, S, hk, hs, _ => by rw [callF_on h]; cases b <;> first | exact nb hs | (cases s <;> simp [runD, exSs, exS, evE, evT, evEs, evL, evI, evIfs, evAnd, evOr, evAndT, evOrT, startD, getV, putV, getO, putVs, putT, wipeE, idxD, sliceD, isAbs, partD, biD, one1, lenD, intD, absD, tupleD, listS, max2D, maxD, maxI, intsD, isTD, tyD, isT, binD, cmpD, isD, n_non, n_tup, n_lst, n_int, n_str, n_bl, truD, lstAt, itemsD, forD, compD, turnF, turnC, kept_none, szOk, rg_nat, rangeL, at0, at1, at2, at3, at4, at5, at6, ix0, ix1, gc_same, gc_len, eq_int, eq_str, eq_bl, str_inj, str_beq, cut1, cut2, lr0, lr1, lr2, lr3, lr4, lr5, lr6, lr7, b20, Ty.d, eqA, eqA0, D.dataL, Ty.data, Ty.sf])
  | .any, b, S, hk, hs, hne => absurd rfl hne
  | .fn a1 a2, b, S, hk, hs, _ => by
    rw [callF_on h]
    cases b <;> first | exact nb hs | skip
    rename_i c1 c2
    simp [Ty.h] at hk
    have e1 := fun S => ih.s0 a1 c1 S (by omega)
    have e2 := fun S => ih.s1 a1 c1 S (by omega)
    have e3 := fun S => ih.s0 c1 a1 S (by omega)
    have e4 := fun S => ih.s1 c1 a1 S (by omega)
    have e5 := fun S => ih.s0 a2 c2 S (by omega)
    have e6 := fun S => ih.s1 a2 c2 S (by omega)
    cases s
    · simp [runD, exSs, exS, evE, evT, evEs, evL, evI, evIfs, evAnd, evOr, evAndT, evOrT, startD, getV, putV, getO, putVs, putT, wipeE, idxD, sliceD, isAbs, partD, biD, one1, lenD, intD, absD, tupleD, listS, max2D, maxD, maxI, intsD, isTD, tyD, isT, binD, cmpD, isD, n_non, n_tup, n_lst, n_int, n_str, n_bl, truD, lstAt, itemsD, forD, compD, turnF, turnC, kept_none, szOk, rg_nat, rangeL, at0, at1, at2, at3, at4, at5, at6, ix0, ix1, gc_same, gc_len, eq_int, eq_str, eq_bl, str_inj, str_beq, cut1, cut2, lr0, lr1, lr2, lr3, lr4, lr5, lr6, lr7, b20, Ty.d, eqA, eqA0, D.dataL, Ty.data, e1, e2, e3, e4, e5, e6, Ty.sf]
      first | done | (cases Ty.sf true c1 a1 <;> simp [gc_same]) | (cases Ty.sf false a1 c1 <;> simp [gc_same])
    · simp [runD, exSs, exS, evE, evT, evEs, evL, evI, evIfs, evAnd, evOr, evAndT, evOrT, startD, getV, putV, getO, putVs, putT, wipeE, idxD, sliceD, isAbs, partD, biD, one1, lenD, intD, absD, tupleD, listS, max2D, maxD, maxI, intsD, isTD, tyD, isT, binD, cmpD, isD, n_non, n_tup, n_lst, n_int, n_str, n_bl, truD, lstAt, itemsD, forD, compD, turnF, turnC, kept_none, szOk, rg_nat, rangeL, at0, at1, at2, at3, at4, at5, at6, ix0, ix1, gc_same, gc_len, eq_int, eq_str, eq_bl, str_inj, str_beq, cut1, cut2, lr0, lr1, lr2, lr3, lr4, lr5, lr6, lr7, b20, Ty.d, eqA, eqA0, D.dataL, Ty.data, e1, e2, e3, e4, e5, e6, Ty.sf]
      first | done | (cases Ty.sf false c1 a1 <;> simp [gc_same]) | (cases Ty.sf true a1 c1 <;> simp [gc_same])
  | .pair a1 a2, b, S, hk, hs, _ => by
    rw [callF_on h]
    cases b <;> first | exact nb hs | skip
    rename_i c1 c2
    simp [Ty.h] at hk
    have e1 := fun S => ih.s0 a1 c1 S (by omega)
    have e2 := fun S => ih.s1 a1 c1 S (by omega)
    have e3 := fun S => ih.s0 c1 a1 S (by omega)
    have e4 := fun S => ih.s1 c1 a1 S (by omega)
    have e5 := fun S => ih.s0 a2 c2 S (by omega)
    have e6 := fun S => ih.s1 a2 c2 S (by omega)
    cases s
    · simp [runD, exSs, exS, evE, evT, evEs, evL, evI, evIfs, evAnd, evOr, evAndT, evOrT, startD, getV, putV, getO, putVs, putT, wipeE, idxD, sliceD, isAbs, partD, biD, one1, lenD, intD, absD, tupleD, listS, max2D, maxD, maxI, intsD, isTD, tyD, isT, binD, cmpD, isD, n_non, n_tup, n_lst, n_int, n_str, n_bl, truD, lstAt, itemsD, forD, compD, turnF, turnC, kept_none, szOk, rg_nat, rangeL, at0, at1, at2, at3, at4, at5, at6, ix0, ix1, gc_same, gc_len, eq_int, eq_str, eq_bl, str_inj, str_beq, cut1, cut2, lr0, lr1, lr2, lr3, lr4, lr5, lr6, lr7, b20, Ty.d, eqA, eqA0, D.dataL, Ty.data, e1, e2, e3, e4, e5, e6, Ty.sf]
      first | done | (cases Ty.sf true c1 a1 <;> simp [gc_same]) | (cases Ty.sf false a1 c1 <;> simp [gc_same])
    · simp [runD, exSs, exS, evE, evT, evEs, evL, evI, evIfs, evAnd, evOr, evAndT, evOrT, startD, getV, putV, getO, putVs, putT, wipeE, idxD, sliceD, isAbs, partD, biD, one1, lenD, intD, absD, tupleD, listS, max2D, maxD, maxI, intsD, isTD, tyD, isT, binD, cmpD, isD, n_non, n_tup, n_lst, n_int, n_str, n_bl, truD, lstAt, itemsD, forD, compD, turnF, turnC, kept_none, szOk, rg_nat, rangeL, at0, at1, at2, at3, at4, at5, at6, ix0, ix1, gc_same, gc_len, eq_int, eq_str, eq_bl, str_inj, str_beq, cut1, cut2, lr0, lr1, lr2, lr3, lr4, lr5, lr6, lr7, b20, Ty.d, eqA, eqA0, D.dataL, Ty.data, e1, e2, e3, e4, e5, e6, Ty.sf]
      first | done | (cases Ty.sf false c1 a1 <;> simp [gc_same]) | (cases Ty.sf true a1 c1 <;> simp [gc_same])
  | .box a1, b, S, hk, hs, _ => by
    rw [callF_on h]
    cases b <;> first | exact nb hs | skip
    rename_i c1
    simp [Ty.h] at hk
    have e1 := fun S => ih.s0 a1 c1 S (by omega)
    have e2 := fun S => ih.s1 a1 c1 S (by omega)
    have e3 := fun S => ih.s0 c1 a1 S (by omega)
    have e4 := fun S => ih.s1 c1 a1 S (by omega)
    cases s
    · simp [runD, exSs, exS, evE, evT, evEs, evL, evI, evIfs, evAnd, evOr, evAndT, evOrT, startD, getV, putV, getO, putVs, putT, wipeE, idxD, sliceD, isAbs, partD, biD, one1, lenD, intD, absD, tupleD, listS, max2D, maxD, maxI, intsD, isTD, tyD, isT, binD, cmpD, isD, n_non, n_tup, n_lst, n_int, n_str, n_bl, truD, lstAt, itemsD, forD, compD, turnF, turnC, kept_none, szOk, rg_nat, rangeL, at0, at1, at2, at3, at4, at5, at6, ix0, ix1, gc_same, gc_len, eq_int, eq_str, eq_bl, str_inj, str_beq, cut1, cut2, lr0, lr1, lr2, lr3, lr4, lr5, lr6, lr7, b20, Ty.d, eqA, eqA0, D.dataL, Ty.data, e1, e2, e3, e4, Ty.sf]
      first | done | (cases Ty.sf false a1 c1 <;> simp [gc_same])
    · simp [runD, exSs, exS, evE, evT, evEs, evL, evI, evIfs, evAnd, evOr, evAndT, evOrT, startD, getV, putV, getO, putVs, putT, wipeE, idxD, sliceD, isAbs, partD, biD, one1, lenD, intD, absD, tupleD, listS, max2D, maxD, maxI, intsD, isTD, tyD, isT, binD, cmpD, isD, n_non, n_tup, n_lst, n_int, n_str, n_bl, truD, lstAt, itemsD, forD, compD, turnF, turnC, kept_none, szOk, rg_nat, rangeL, at0, at1, at2, at3, at4, at5, at6, ix0, ix1, gc_same, gc_len, eq_int, eq_str, eq_bl, str_inj, str_beq, cut1, cut2, lr0, lr1, lr2, lr3, lr4, lr5, lr6, lr7, b20, Ty.d, eqA, eqA0, D.dataL, Ty.data, e1, e2, e3, e4, Ty.sf]
      first | done | (cases Ty.sf true a1 c1 <;> simp [gc_same])
theorem Ty.base_same (a : Ty) : a.same a.base = true := by cases a <;> rfl
theorem Ty.sf_to_base (a : Ty) (ha : a ≠ .any) : Ty.sf false a a.base = Ty.sf false a .any := by
  cases a <;> first | exact absurd rfl ha | skip
  all_goals simp [Ty.base, Ty.sf]
  all_goals (try rw [Bool.eq_iff_iff]); try simp
theorem Ty.sf1_any (a : Ty) : Ty.sf true a .any = true := by cases a <;> simp [Ty.sf]
theorem safe_ok (hg : P.glob 0 = some (.tup [.str "any"])) (hd : P.gdict 0 = dtG) (h12 : defs 12 = some fd12) (h13 : defs 13 = some fd13) (h20 : defs 20 = some fd20) (h : defs 19 = some fd19) : ∀ (k : Nat) {n : Nat}, 3 * k ≤ n → SafeAt P defs 19 n k
  | 0, n, hn => ⟨fun a b S hk => by have := a.h_pos; omega, fun a b S hk => by have := a.h_pos; omega⟩
  | k + 1, 0, hn => by omega
  | k + 1, 1, hn => by omega
  | k + 1, 2, hn => by omega
  | k + 1, n + 3, hn => by
    have i0 := safe_ok hg hd h12 h13 h20 h k (n := n) (by omega)
    have i1 := safe_ok hg hd h12 h13 h20 h k (n := n + 1) (by omega)
    have q0 := parts_ok h20 i0
    have q1 := parts_ok h20 i1
    have g0 := fun s l S => ground_ok (P := P) h12 (n := n + 1) s l S
    -- from a type to any, side 0
    have toany : ∀ (a : Ty) (S : Store), a ≠ .any → a.h + 1 ≤ k + 1 → callF P defs (n + 2) 19 [a.d, a.base.d, .int 0] S = some (.bl (Ty.sf false a .any), S) := fun a S ha hk => by
      have z := q0 false a a.base S (by have := a.base_h; omega) a.base_same ha
      have z : callF P defs (n + 1) 20 [a.d, a.base.d, .int 0] S = some (.bl (Ty.sf false a a.base), S) := z
      rw [Ty.sf_to_base a ha] at z
      rw [callF_on h]
      cases a <;> first | exact absurd rfl ha | skip
      all_goals simp only [Ty.d, Ty.base] at z ⊢
      all_goals simp [runD, exSs, exS, evE, evT, evEs, evL, evI, evIfs, evAnd, evOr, evAndT, evOrT, startD, getV, putV, getO, putVs, putT, wipeE, idxD, sliceD, isAbs, partD, biD, one1, lenD, intD, absD, tupleD, listS, max2D, maxD, maxI, intsD, isTD, tyD, isT, binD, cmpD, isD, n_non, n_tup, n_lst, n_int, n_str, n_bl, truD, lstAt, itemsD, forD, compD, turnF, turnC, kept_none, szOk, rg_nat, rangeL, at0, at1, at2, at3, at4, at5, at6, ix0, ix1, gc_same, gc_len, eq_int, eq_str, eq_bl, str_inj, str_beq, cut1, cut2, lr0, lr1, lr2, lr3, lr4, lr5, lr6, lr7, b19, Ty.d, eqA, eqA0, D.dataL, D.data, Ty.data, hg, z]
    have any1 : ∀ (b : Ty) (s : Bool) (S : Store), callF P defs (n + 3) 19 [.tup [.str "any"], b.d, .int (if s then 1 else 0)] S = some (.bl (decide (b = .any) || !s), S) := fun b s S => by
      rw [callF_on h]
      cases s <;> cases b <;> simp [runD, exSs, exS, evE, evT, evEs, evL, evI, evIfs, evAnd, evOr, evAndT, evOrT, startD, getV, putV, getO, putVs, putT, wipeE, idxD, sliceD, isAbs, partD, biD, one1, lenD, intD, absD, tupleD, listS, max2D, maxD, maxI, intsD, isTD, tyD, isT, binD, cmpD, isD, n_non, n_tup, n_lst, n_int, n_str, n_bl, truD, lstAt, itemsD, forD, compD, turnF, turnC, kept_none, szOk, rg_nat, rangeL, at0, at1, at2, at3, at4, at5, at6, ix0, ix1, gc_same, gc_len, eq_int, eq_str, eq_bl, str_inj, str_beq, cut1, cut2, lr0, lr1, lr2, lr3, lr4, lr5, lr6, lr7, b19, Ty.d, eqA, eqA0, D.dataL, D.data, Ty.data, hg]
    have toany2 : ∀ (a : Ty) (s : Bool) (S : Store), a ≠ .any → a.h + 1 ≤ k + 1 → callF P defs (n + 3) 19 [a.d, .tup [.str "any"], .int (if s then 1 else 0)] S = some (.bl (s || Ty.sf false a .any), S) := fun a s S ha hk => by
      obtain ⟨u, l, e1, e2⟩ := Ty.base_d a ha
      have z := toany a S ha hk
      have g2 := gtype_ok (P := P) h13 hd (n := n + 1) e2 S
      rw [callF_on h]
      cases s
      · cases a <;> first | exact absurd rfl ha | skip
        all_goals simp only [Ty.d, D.tup.injEq, List.cons.injEq, D.str.injEq] at e1
        all_goals obtain ⟨rfl, rfl⟩ := e1
        all_goals simp only [Ty.d, Ty.base] at z g2 ⊢
        all_goals simp [runD, exSs, exS, evE, evT, evEs, evL, evI, evIfs, evAnd, evOr, evAndT, evOrT, startD, getV, putV, getO, putVs, putT, wipeE, idxD, sliceD, isAbs, partD, biD, one1, lenD, intD, absD, tupleD, listS, max2D, maxD, maxI, intsD, isTD, tyD, isT, binD, cmpD, isD, n_non, n_tup, n_lst, n_int, n_str, n_bl, truD, lstAt, itemsD, forD, compD, turnF, turnC, kept_none, szOk, rg_nat, rangeL, at0, at1, at2, at3, at4, at5, at6, ix0, ix1, gc_same, gc_len, eq_int, eq_str, eq_bl, str_inj, str_beq, cut1, cut2, lr0, lr1, lr2, lr3, lr4, lr5, lr6, lr7, b19, Ty.d, eqA, eqA0, D.dataL, D.data, Ty.data, hg, z, g0, g2]
      · cases a <;> first | exact absurd rfl ha | skip
        all_goals simp [runD, exSs, exS, evE, evT, evEs, evL, evI, evIfs, evAnd, evOr, evAndT, evOrT, startD, getV, putV, getO, putVs, putT, wipeE, idxD, sliceD, isAbs, partD, biD, one1, lenD, intD, absD, tupleD, listS, max2D, maxD, maxI, intsD, isTD, tyD, isT, binD, cmpD, isD, n_non, n_tup, n_lst, n_int, n_str, n_bl, truD, lstAt, itemsD, forD, compD, turnF, turnC, kept_none, szOk, rg_nat, rangeL, at0, at1, at2, at3, at4, at5, at6, ix0, ix1, gc_same, gc_len, eq_int, eq_str, eq_bl, str_inj, str_beq, cut1, cut2, lr0, lr1, lr2, lr3, lr4, lr5, lr6, lr7, b19, Ty.d, eqA, eqA0, D.dataL, D.data, Ty.data, hg]
    have same : ∀ (a b : Ty) (s : Bool) (S : Store), a ≠ .any → a.same b = true → a.h + b.h ≤ k + 1 → callF P defs (n + 3) 19 [a.d, b.d, .int (if s then 1 else 0)] S = some (.bl (Ty.sf s a b), S) := fun a b s S ha hs hk => by
      have z := q1 s a b S (by omega) hs ha
      rw [callF_on h]
      cases a <;> first | exact absurd rfl ha | skip
      all_goals cases b <;> first | exact nb hs | skip
      all_goals simp only [Ty.d] at z ⊢
      all_goals simp [runD, exSs, exS, evE, evT, evEs, evL, evI, evIfs, evAnd, evOr, evAndT, evOrT, startD, getV, putV, getO, putVs, putT, wipeE, idxD, sliceD, isAbs, partD, biD, one1, lenD, intD, absD, tupleD, listS, max2D, maxD, maxI, intsD, isTD, tyD, isT, binD, cmpD, isD, n_non, n_tup, n_lst, n_int, n_str, n_bl, truD, lstAt, itemsD, forD, compD, turnF, turnC, kept_none, szOk, rg_nat, rangeL, at0, at1, at2, at3, at4, at5, at6, ix0, ix1, gc_same, gc_len, eq_int, eq_str, eq_bl, str_inj, str_beq, cut1, cut2, lr0, lr1, lr2, lr3, lr4, lr5, lr6, lr7, b19, Ty.d, eqA, eqA0, D.dataL, D.data, Ty.data, hg, z]
    have diff : ∀ (a b : Ty) (s : Bool) (S : Store), a ≠ .any → b ≠ .any → a.same b = false → callF P defs (n + 3) 19 [a.d, b.d, .int (if s then 1 else 0)] S = some (.bl (Ty.sf s a b), S) := fun a b s S ha hb hs => by
      rw [callF_on h]
      cases a <;> first | exact absurd rfl ha | skip
      all_goals cases b <;> first | exact Bool.noConfusion (show true = false from hs) | exact absurd rfl hb | skip
      all_goals simp [runD, exSs, exS, evE, evT, evEs, evL, evI, evIfs, evAnd, evOr, evAndT, evOrT, startD, getV, putV, getO, putVs, putT, wipeE, idxD, sliceD, isAbs, partD, biD, one1, lenD, intD, absD, tupleD, listS, max2D, maxD, maxI, intsD, isTD, tyD, isT, binD, cmpD, isD, n_non, n_tup, n_lst, n_int, n_str, n_bl, truD, lstAt, itemsD, forD, compD, turnF, turnC, kept_none, szOk, rg_nat, rangeL, at0, at1, at2, at3, at4, at5, at6, ix0, ix1, gc_same, gc_len, eq_int, eq_str, eq_bl, str_inj, str_beq, cut1, cut2, lr0, lr1, lr2, lr3, lr4, lr5, lr6, lr7, b19, Ty.d, eqA, eqA0, D.dataL, D.data, Ty.data, hg, Ty.sf]
    have all : ∀ (s : Bool) (a b : Ty) (S : Store), a.h + b.h ≤ k + 1 → callF P defs (n + 3) 19 [a.d, b.d, .int (if s then 1 else 0)] S = some (.bl (Ty.sf s a b), S) := fun s a b S hk => by
      by_cases ha : a = .any
      · subst ha
        rw [show Ty.sf s .any b = (decide (b = .any) || !s) by simp [Ty.sf]]
        exact any1 b s S
      · by_cases hb : b = .any
        · subst hb
          have z := toany2 a s S ha hk
          cases s
          · exact z
          · rw [Ty.sf1_any]; exact z
        · cases hs : a.same b with
          | true => exact same a b s S ha hs hk
          | false => exact diff a b s S ha hb hs
    exact ⟨fun a b S hk => all false a b S hk, fun a b S hk => all true a b S hk⟩
theorem Ty.eq_base (a : Ty) : eqD a.d a.base.d = some (decide (a = a.base)) := Ty.eq (.inr (by have := a.base_h; omega))
end
end HN

set_option maxHeartbeats 0
/-! Labels each once; what is safe, told by the labels; heights of types. -/
namespace HN
open PySem L2
/-- _law_height -/
def b93 : Ss := (.cons (.ret (.bin .add (.int 1) (.isi .max0 (.frz (.comp [1] true (.e (.slice (.var 0) (.int 1) .absent)) .nil (.call 93 (.cons (.var 1) .nil))))))) .nil)
abbrev fd93 : FD := ⟨1, 2, b93⟩
def addP (F : List (Int × Int)) (p : Int × Int) : List (Int × Int) := if F.contains p then F else F ++ [p]
def addPs (F : List (Int × Int)) (l : List (Int × Int)) : List (Int × Int) := l.foldl addP F
theorem addK_P (F : List (Int × Int)) (p : Int × Int) : addK (F.map fun p => [p.1, p.2]) [p.1, p.2] = (addP F p).map fun p => [p.1, p.2] := by
  have hc : (F.map fun p => [p.1, p.2]).contains [p.1, p.2] = F.contains p := by
    rw [Bool.eq_iff_iff, List.contains_iff_mem, List.contains_iff_mem, List.mem_map]
    constructor
    · rintro ⟨q, hq, e⟩
      obtain ⟨q1, q2⟩ := q
      obtain ⟨p1, p2⟩ := p
      simp at e
      obtain ⟨rfl, rfl⟩ := e
      exact hq
    · exact fun h => ⟨p, h, rfl⟩
  unfold addK addP
  rw [hc]
  split <;> simp
theorem addAll_P : ∀ (l F : List (Int × Int)), addAll (F.map fun p => [p.1, p.2]) l = (addPs F l).map fun p => [p.1, p.2]
  | [], F => rfl
  | p :: l, F => by
    show addAll (addK (F.map fun p => [p.1, p.2]) [p.1, p.2]) l = (addPs (addP F p) l).map _
    rw [addK_P]
    exact addAll_P l (addP F p)
theorem mem_addP {F : List (Int × Int)} {p x : Int × Int} : x ∈ addP F p ↔ x ∈ F ∨ x = p := by
  unfold addP
  split
  · rename_i h
    rw [List.contains_iff_mem] at h
    constructor
    · exact .inl
    · rintro (q | rfl)
      · exact q
      · exact h
  · simp
theorem mem_addPs {x : Int × Int} : ∀ (l F : List (Int × Int)), x ∈ addPs F l ↔ x ∈ F ∨ x ∈ l
  | [], F => by simp [addPs]
  | p :: l, F => by
    show x ∈ addPs (addP F p) l ↔ _
    rw [mem_addPs l, mem_addP, List.mem_cons, or_assoc]
theorem addPs_app (F a b : List (Int × Int)) : addPs F (a ++ b) = addPs (addPs F a) b := by simp [addPs, List.foldl_append]
theorem more_addP {F U : List (Int × Int)} {p : Int × Int} : addP (more F U) p = more F (addP U p) := by
  unfold addP
  by_cases h1 : p ∈ F
  · have a : (more F U).contains p = true := by rw [List.contains_iff_mem, mem_more]; exact .inl h1
    rw [a]
    by_cases h2 : p ∈ U
    · have b : U.contains p = true := by rw [List.contains_iff_mem]; exact h2
      rw [b] <;> simp
    · have b : U.contains p = false := by rw [← Bool.not_eq_true, List.contains_iff_mem]; exact h2
      rw [b]
      simp [more, List.filter_append, h1]
  · by_cases h2 : p ∈ U
    · have a : (more F U).contains p = true := by rw [List.contains_iff_mem, mem_more]; exact .inr h2
      have b : U.contains p = true := by rw [List.contains_iff_mem]; exact h2
      rw [a, b] <;> simp
    · have a : (more F U).contains p = false := by rw [← Bool.not_eq_true, List.contains_iff_mem, mem_more]; simp [h1, h2]
      have b : U.contains p = false := by rw [← Bool.not_eq_true, List.contains_iff_mem]; exact h2
      rw [a, b]
      simp [more, List.filter_append, h1]
theorem addPs_more : ∀ (l F U : List (Int × Int)), addPs (more F U) l = more F (addPs U l)
  | [], F, U => rfl
  | p :: l, F, U => by
    show addPs (addP (more F U) p) l = more F (addPs (addP U p) l)
    rw [more_addP]
    exact addPs_more l F (addP U p)
theorem more_nil (F : List (Int × Int)) : more F [] = F := by simp [more]
theorem nil_more (F : List (Int × Int)) : more [] F = F := by simp [more]
theorem addPs_from (F l : List (Int × Int)) : addPs F l = more F (addPs [] l) := by
  have := addPs_more l F []
  rwa [more_nil] at this
theorem Ck.ul_labs : ∀ c : Ck, addPs [] c.labs = c.ul
  | .any => rfl
  | .same _ => rfl
  | .fn a b => by simp only [Ck.labs, Ck.ul]; rw [addPs_app, Ck.ul_labs a, addPs_from, Ck.ul_labs b, nil_more]
  | .pair a b => by simp only [Ck.labs, Ck.ul]; rw [addPs_app, Ck.ul_labs a, addPs_from, Ck.ul_labs b, nil_more]
  | .box a b => by simp only [Ck.labs, Ck.ul]; rw [addPs_app, Ck.ul_labs a, addPs_from, Ck.ul_labs b, nil_more]
  | .give c => by simp only [Ck.labs, Ck.ul]; rw [Ck.ul_labs c, nil_more]
  | .take _ n s c => by
    simp only [Ck.labs, Ck.ul]
    show addPs (addP [] (n, s)) c.labs = _
    rw [addPs_from, Ck.ul_labs c]
    rfl
  | .fail _ n s _ => rfl
theorem Ck.keys_ul (c : Ck) : (addAll [] c.labs).map keyT = c.ul.map lbD := by
  have := addAll_P c.labs []
  rw [Ck.ul_labs] at this
  rw [show addAll [] c.labs = addAll (([] : List (Int × Int)).map fun p => [p.1, p.2]) c.labs from rfl, this, List.map_map]
  rfl
theorem Ck.labs_sz (c : Ck) : c.labs.length ≤ c.sz := by
  induction c <;> simp_all [Ck.labs, Ck.sz] <;> omega
theorem runD_endq {P : Prg} {c m : CallF} {fd : FD} {ds : List D} {S : Store} {d : D} (hp : ds.length = fd.params) (h : exSs P c m fd.body (startD fd.slots ds) S = some (.rt d S)) : runD P c m fd ds S = some (d, S) := by
  unfold runD
  rw [if_pos hp, h]
  show some (gcD S (d, S)) = _
  rw [gc_same]
/-- a side is safe if its label does not stand in the check -/
theorem sf_labs (n : Int) : ∀ (m : Nat) (S T : Ty), S.h + T.h ≤ m → S.fits T = true → ∀ s : Int, (s = 0 ∨ s = 1) →
    ((n, s) ∈ (Ck.of n s S T).labs ↔ Ty.sf true S T = false) ∧ ((n, 1 - s) ∈ (Ck.of n s S T).labs ↔ Ty.sf false S T = false)
  | 0, S, T, hm, _, s, hs => by have := S.h_pos; omega
  | m + 1, S, T, hm, hf, s, hs => by
    have fa : ∀ a : Ty, Ty.fits .any a = true := fun a => by cases a <;> rfl
    have fb : ∀ a : Ty, a.fits .any = true := fun a => by cases a <;> rfl
    have h1 : Ty.h .any = 1 := rfl
    have ne : ¬ (1 - s = s) := by omega
    have ne' : ¬ (s = 1 - s) := by omega
    have ss : 1 - (1 - s) = s := by omega
    have ih : ∀ a b : Ty, a.h + b.h ≤ m → a.fits b = true → ((n, s) ∈ (Ck.of n s a b).labs ↔ Ty.sf true a b = false) ∧ ((n, 1 - s) ∈ (Ck.of n s a b).labs ↔ Ty.sf false a b = false) ∧ ((n, 1 - s) ∈ (Ck.of n (1 - s) a b).labs ↔ Ty.sf true a b = false) ∧ ((n, s) ∈ (Ck.of n (1 - s) a b).labs ↔ Ty.sf false a b = false) := fun a b h f => by
      have q1 := sf_labs n m a b h f s hs
      have q2 := sf_labs n m a b h f (1 - s) (by omega)
      rw [ss] at q2
      exact ⟨q1.1, q1.2, q2.1, q2.2⟩
    have t1 : ∀ a : Ty, Ty.sf false .any a = true := fun a => by simp [Ty.sf]
    have t2 := Ty.sf1_any
    have t3 : ∀ a : Ty, Ty.sf true .any a = decide (a = .any) := fun a => by simp [Ty.sf]
    cases S with
    | any =>
      cases T with
      | any => rw [Ck.of]; simp [Ck.labs, Ty.sf]
      | int => rw [Ck.of]; simp [Ck.labs, Ty.sf, ne]
      | bool => rw [Ck.of]; simp [Ck.labs, Ty.sf, ne]
      | unit => rw [Ck.of]; simp [Ck.labs, Ty.sf, ne]
      | fn a b =>
        simp only [Ty.h] at hm
        have i1 := ih a .any (by omega) (fb a)
        have i2 := ih .any b (by omega) (fa b)
        rw [t1, t3] at i2
        rw [t2] at i1
        rw [Ck.of]; simp [Ck.labs, t1, t3, ne, i1, i2]
      | pair a b =>
        simp only [Ty.h] at hm
        have i1 := ih .any a (by omega) (fa a)
        have i2 := ih .any b (by omega) (fa b)
        rw [t1, t3] at i1 i2
        rw [Ck.of]; simp [Ck.labs, t1, t3, ne, i1, i2]
      | box a =>
        simp only [Ty.h] at hm
        have i1 := ih a .any (by omega) (fb a)
        have i2 := ih .any a (by omega) (fa a)
        rw [t1, t3] at i2
        rw [t2] at i1
        rw [Ck.of]; simp [Ck.labs, t1, t3, ne, i1, i2]
    | int => cases T <;> first | exact nb hf | (rw [Ck.of]; simp [Ck.labs, Ty.sf])
    | bool => cases T <;> first | exact nb hf | (rw [Ck.of]; simp [Ck.labs, Ty.sf])
    | unit => cases T <;> first | exact nb hf | (rw [Ck.of]; simp [Ck.labs, Ty.sf])
    | fn a b =>
      cases T <;> first | exact nb hf | skip
      · simp only [Ty.h] at hm
        have i1 := ih .any a (by omega) (fa a)
        have i2 := ih b .any (by omega) (fb b)
        rw [t1, t3] at i1
        rw [t2] at i2
        rw [Ck.of]; simp [Ck.labs, Ty.sf, ne, i1, i2]
        by_cases z : a = .any <;> simp [z]
      · rename_i c d
        obtain ⟨f1, f2⟩ := and2 hf
        simp only [Ty.h] at hm
        have i1 := ih c a (by omega) (by rw [Ty.fits_comm]; exact f1)
        have i2 := ih b d (by omega) f2
        rw [Ck.of]; simp only [Ck.labs, List.mem_append, Ty.sf, i1, i2, Bool.and_eq_false_iff, Bool.not_true, Bool.not_false]
        simp
    | pair a b =>
      cases T <;> first | exact nb hf | skip
      · simp only [Ty.h] at hm
        have i1 := ih a .any (by omega) (fb a)
        have i2 := ih b .any (by omega) (fb b)
        rw [t2] at i1 i2
        rw [Ck.of]; simp [Ck.labs, Ty.sf, ne, i1, i2]
        first | done | (cases Ty.sf false a .any <;> simp)
      · rename_i c d
        obtain ⟨f1, f2⟩ := and2 hf
        simp only [Ty.h] at hm
        have i1 := ih a c (by omega) f1
        have i2 := ih b d (by omega) f2
        rw [Ck.of]; simp only [Ck.labs, List.mem_append, Ty.sf, i1, i2, Bool.and_eq_false_iff]
        simp
    | box a =>
      cases T <;> first | exact nb hf | skip
      · simp only [Ty.h] at hm
        have i1 := ih .any a (by omega) (fa a)
        have i2 := ih a .any (by omega) (fb a)
        rw [t1, t3] at i1
        rw [t2] at i2
        rw [Ck.of]; simp [Ck.labs, Ty.sf, ne, i1, i2]
        by_cases z : a = .any <;> simp [z]
      · rename_i c
        have f1 : a.fits c = true := hf
        simp only [Ty.h] at hm
        have i1 := ih c a (by omega) (by rw [Ty.fits_comm]; exact f1)
        have i2 := ih a c (by omega) f1
        rw [Ck.of]; simp only [Ck.labs, List.mem_append, Ty.sf, i1, i2, Bool.and_eq_false_iff, Bool.not_true, Bool.not_false]
        simp [or_comm]
section
variable {P : Prg} {defs : Nat → Option FD}
theorem lheight_run (h : defs 93 = some fd93) : ∀ (t : Ty) {n : Nat} (S : Store), t.h ≤ n → callF P defs n 93 [t.d] S = some (.int t.h, S)
  | t, 0, S, hn => by have := t.h_pos; omega
  | .any, n + 1, S, hn => by rw [callF_on h]; simp [runD, exSs, exS, evE, evT, evEs, evL, evI, evIfs, evAnd, evOr, evAndT, evOrT, startD, getV, putV, getO, putVs, putT, wipeE, idxD, sliceD, isAbs, partD, biD, one1, lenD, intD, absD, tupleD, listS, max2D, maxD, maxI, intsD, isTD, tyD, isT, binD, cmpD, isD, n_non, n_tup, n_lst, n_int, n_str, n_bl, truD, lstAt, itemsD, forD, compD, turnF, turnC, kept_none, szOk, rg_nat, rangeL, at0, at1, at2, at3, at4, at5, at6, ix0, ix1, gc_same, gc_len, eq_int, eq_str, eq_bl, str_inj, str_beq, cut1, cut2, lr0, lr1, lr2, lr3, lr4, lr5, lr6, lr7, b93, max0D, Ty.d, Ty.h]
  | .int, n + 1, S, hn => by rw [callF_on h]; simp [runD, exSs, exS, evE, evT, evEs, evL, evI, evIfs, evAnd, evOr, evAndT, evOrT, startD, getV, putV, getO, putVs, putT, wipeE, idxD, sliceD, isAbs, partD, biD, one1, lenD, intD, absD, tupleD, listS, max2D, maxD, maxI, intsD, isTD, tyD, isT, binD, cmpD, isD, n_non, n_tup, n_lst, n_int, n_str, n_bl, truD, lstAt, itemsD, forD, compD, turnF, turnC, kept_none, szOk, rg_nat, rangeL, at0, at1, at2, at3, at4, at5, at6, ix0, ix1, gc_same, gc_len, eq_int, eq_str, eq_bl, str_inj, str_beq, cut1, cut2, lr0, lr1, lr2, lr3, lr4, lr5, lr6, lr7, b93, max0D, Ty.d, Ty.h]
  | .bool, n + 1, S, hn => by rw [callF_on h]; simp [runD, exSs, exS, evE, evT, evEs, evL, evI, evIfs, evAnd, evOr, evAndT, evOrT, startD, getV, putV, getO, putVs, putT, wipeE, idxD, sliceD, isAbs, partD, biD, one1, lenD, intD, absD, tupleD, listS, max2D, maxD, maxI, intsD, isTD, tyD, isT, binD, cmpD, isD, n_non, n_tup, n_lst, n_int, n_str, n_bl, truD, lstAt, itemsD, forD, compD, turnF, turnC, kept_none, szOk, rg_nat, rangeL, at0, at1, at2, at3, at4, at5, at6, ix0, ix1, gc_same, gc_len, eq_int, eq_str, eq_bl, str_inj, str_beq, cut1, cut2, lr0, lr1, lr2, lr3, lr4, lr5, lr6, lr7, b93, max0D, Ty.d, Ty.h]
  | .unit, n + 1, S, hn => by rw [callF_on h]; simp [runD, exSs, exS, evE, evT, evEs, evL, evI, evIfs, evAnd, evOr, evAndT, evOrT, startD, getV, putV, getO, putVs, putT, wipeE, idxD, sliceD, isAbs, partD, biD, one1, lenD, intD, absD, tupleD, listS, max2D, maxD, maxI, intsD, isTD, tyD, isT, binD, cmpD, isD, n_non, n_tup, n_lst, n_int, n_str, n_bl, truD, lstAt, itemsD, forD, compD, turnF, turnC, kept_none, szOk, rg_nat, rangeL, at0, at1, at2, at3, at4, at5, at6, ix0, ix1, gc_same, gc_len, eq_int, eq_str, eq_bl, str_inj, str_beq, cut1, cut2, lr0, lr1, lr2, lr3, lr4, lr5, lr6, lr7, b93, max0D, Ty.d, Ty.h]
  | .fn a b, n + 1, S, hn => by
    have e1 := fun S => lheight_run h a (n := n) S (by simp [Ty.h] at hn; omega)
    have e2 := fun S => lheight_run h b (n := n) S (by simp [Ty.h] at hn; omega)
    rw [callF_on h]; simp [runD, exSs, exS, evE, evT, evEs, evL, evI, evIfs, evAnd, evOr, evAndT, evOrT, startD, getV, putV, getO, putVs, putT, wipeE, idxD, sliceD, isAbs, partD, biD, one1, lenD, intD, absD, tupleD, listS, max2D, maxD, maxI, intsD, isTD, tyD, isT, binD, cmpD, isD, n_non, n_tup, n_lst, n_int, n_str, n_bl, truD, lstAt, itemsD, forD, compD, turnF, turnC, kept_none, szOk, rg_nat, rangeL, at0, at1, at2, at3, at4, at5, at6, ix0, ix1, gc_same, gc_len, eq_int, eq_str, eq_bl, str_inj, str_beq, cut1, cut2, lr0, lr1, lr2, lr3, lr4, lr5, lr6, lr7, b93, max0D, Ty.d, Ty.h, e1, e2]
    omega
  | .pair a b, n + 1, S, hn => by
    have e1 := fun S => lheight_run h a (n := n) S (by simp [Ty.h] at hn; omega)
    have e2 := fun S => lheight_run h b (n := n) S (by simp [Ty.h] at hn; omega)
    rw [callF_on h]; simp [runD, exSs, exS, evE, evT, evEs, evL, evI, evIfs, evAnd, evOr, evAndT, evOrT, startD, getV, putV, getO, putVs, putT, wipeE, idxD, sliceD, isAbs, partD, biD, one1, lenD, intD, absD, tupleD, listS, max2D, maxD, maxI, intsD, isTD, tyD, isT, binD, cmpD, isD, n_non, n_tup, n_lst, n_int, n_str, n_bl, truD, lstAt, itemsD, forD, compD, turnF, turnC, kept_none, szOk, rg_nat, rangeL, at0, at1, at2, at3, at4, at5, at6, ix0, ix1, gc_same, gc_len, eq_int, eq_str, eq_bl, str_inj, str_beq, cut1, cut2, lr0, lr1, lr2, lr3, lr4, lr5, lr6, lr7, b93, max0D, Ty.d, Ty.h, e1, e2]
    omega
  | .box a, n + 1, S, hn => by
    have e1 := fun S => lheight_run h a (n := n) S (by simp [Ty.h] at hn; omega)
    rw [callF_on h]; simp [runD, exSs, exS, evE, evT, evEs, evL, evI, evIfs, evAnd, evOr, evAndT, evOrT, startD, getV, putV, getO, putVs, putT, wipeE, idxD, sliceD, isAbs, partD, biD, one1, lenD, intD, absD, tupleD, listS, max2D, maxD, maxI, intsD, isTD, tyD, isT, binD, cmpD, isD, n_non, n_tup, n_lst, n_int, n_str, n_bl, truD, lstAt, itemsD, forD, compD, turnF, turnC, kept_none, szOk, rg_nat, rangeL, at0, at1, at2, at3, at4, at5, at6, ix0, ix1, gc_same, gc_len, eq_int, eq_str, eq_bl, str_inj, str_beq, cut1, cut2, lr0, lr1, lr2, lr3, lr4, lr5, lr6, lr7, b93, max0D, Ty.d, Ty.h, e1]
    omega
end
end HN

namespace K22
open PySem L2 HN

def top (i : Nat) : Stmt := PySem.Challenge.pw_halfnoted_k22_checks_of_casts.main.body.getD i (.Pass ⟨0, 0, 0, 0⟩)
abbrev n12 : List Str := ["known"]
abbrev n13 : List Str := ["name"]
abbrev n20 : List Str := ["source", "target", "side", "turned"]
abbrev n19 : List Str := ["source", "target", "side"]
abbrev n24 : List Str := ["source", "target", "number", "side", "kind", "last", "second", "first"]
abbrev n23 : List Str := ["source", "target", "number", "side", "middle", "name"]
abbrev n26 : List Str := ["check"]
abbrev n34 : List Str := ["check"]
abbrev n42 : List Str := ["check", "inner"]
abbrev n43 : List Str := ["check", "below", "inner"]
abbrev n35 : List Str := ["check", "result", "inner"]
abbrev n37 : List Str := ["check", "seen", "label"]
abbrev n44 : List Str := ["value"]
abbrev n46 : List Str := ["value", "head", "size"]
abbrev n45 : List Str := ["value"]
abbrev n48 : List Str := ["value"]
abbrev n49 : List Str := ["value"]
abbrev n51 : List Str := ["value", "room", "kind"]
abbrev n50 : List Str := ["value"]
abbrev n52 : List Str := ["value", "name", "room"]
abbrev n47 : List Str := ["value", "room"]
abbrev n58 : List Str := ["value"]
abbrev n14 : List Str := ["_law_script", "_law_cells", "_law_cell"]
abbrev n4 : List Str := ["_law_state_here", "_law_most", "_law_cells", "_law_at", "_law_cell", "_law_mixed"]
abbrev n29 : List Str := ["_law_state_here", "_law_depth_here", "_law_kind"]
abbrev n31 : List Str := ["_law_name"]
abbrev n36 : List Str := ["_law_one", "_law_other", "_law_number", "_law_side", "_law_last", "_law_second"]
abbrev n30 : List Str := ["_law_state_here", "_law_one", "_law_depth_here", "_law_kind"]
/-- _law_height -/
def b93 : Ss := (.cons (.ret (.bin .add (.int 1) (.isi .max0 (.frz (.comp [1] true (.e (.slice (.var 0) (.int 1) .absent)) .nil (.call 93 (.cons (.var 1) .nil))))))) .nil)
abbrev fd93 : FD := ⟨1, 2, b93⟩
abbrev n93 : List Str := ["_law_one", "_law_part"]
abbrev n53 : List Str := ["_law_check_here"]
abbrev n54 : List Str := ["_law_check_here", "_law_part"]
abbrev n55 : List Str := ["_law_check_here", "_law_below", "_law_part"]
abbrev n56 : List Str := ["_law_check_here", "_law_found", "_law_part", "_law_label"]
/-- _law_holds -/
def b94 : Ss := (.cons (.set 4 (.callK 23 (.cons (.var 0) (.cons (.var 1) .nil)) (.cons (.var 2) (.cons (.var 3) .nil)))) (.cons (.ite (.or (.cons (.cmp .ne (.var 4) (.call 36 (.cons (.var 0) (.cons (.var 1) (.cons (.var 2) (.cons (.var 3) .nil)))))) (.cons (.cmp .isNot (.call 58 (.cons (.var 4) .nil)) (.bl true)) .nil))) (.cons (.ret (.bl false)) .nil) .nil) (.cons (.par [6, 7] (.cons (.call 54 (.cons (.var 4) .nil)) (.cons (.call 55 (.cons (.var 4) .nil)) .nil))) (.cons (.ite (.or (.cons (.cmp .ne (.call 42 (.cons (.var 4) .nil)) (.var 6)) (.cons (.cmp .ne (.call 43 (.cons (.var 4) .nil)) (.var 7)) (.cons (.cmp .ne (.call 37 (.cons (.var 4) .nil)) (.call 56 (.cons (.var 4) .nil))) .nil)))) (.cons (.ret (.bl false)) .nil) .nil) (.cons (.ite (.or (.cons (.cmp .gt (.var 7) (.bi .max2 (.cons (.call 93 (.cons (.var 0) .nil)) (.cons (.call 93 (.cons (.var 1) .nil)) .nil)))) (.cons (.cmp .gt (.var 6) (.bin .sub (.bin .mul (.int 3) (.bin .shl (.int 1) (.var 7))) (.int 3))) .nil))) (.cons (.ret (.bl false)) .nil) .nil) (.cons (.forS [5] true (.e (.frz (.disp (.cons (.int 0) (.cons (.int 1) .nil))))) (.cons (.set 8 (.callK 19 (.cons (.var 0) (.cons (.var 1) .nil)) (.cons (.var 5) .nil))) (.cons (.set 9 (.tup (.cons (.var 2) (.cons (.bin .mod (.bin .add (.bin .add (.var 3) (.int 1)) (.var 5)) (.int 2)) .nil)))) (.cons (.ite (.or (.cons (.and (.cons (.cmp .isNot (.var 8) (.bl true)) (.cons (.cmp .isNot (.var 8) (.bl false)) .nil))) (.cons (.cmp .eq (.var 8) (.cmp .isIn (.var 9) (.call 56 (.cons (.var 4) .nil)))) .nil))) (.cons (.ret (.bl false)) .nil) .nil) .nil)))) (.cons (.ret (.bl true)) .nil)))))))
abbrev fd94 : FD := ⟨4, 10, b94⟩
abbrev n94 : List Str := ["_law_one", "_law_other", "_law_number", "_law_side", "_law_check_here", "_law_turned", "_law_size_here", "_law_height_here", "_law_told", "_law_label"]
/-- law -/
def b95 : Ss := (.cons (.set 1 (.call 14 (.cons (.var 0) .nil))) (.cons (.set 2 (.call 29 (.cons (.var 1) (.cons (.bin .add (.int 1) (.call 4 (.cons (.var 1) (.cons (.int 4) .nil)))) .nil)))) (.cons (.set 3 (.call 30 (.cons (.var 1) (.cons (.var 2) (.cons (.int 2) .nil))))) (.cons (.set 4 (.call 4 (.cons (.var 1) (.cons (.bin .pow (.int 10) (.int 6)) .nil)))) (.cons (.set 5 (.call 4 (.cons (.var 1) (.cons (.int 2) .nil)))) (.cons (.forS [6] true (.e (.frz (.disp (.cons (.tup (.cons (.var 2) (.cons (.var 3) .nil))) (.cons (.tup (.cons (.var 3) (.cons (.var 2) .nil))) (.cons (.tup (.cons (.var 2) (.cons (.var 2) .nil))) (.cons (.tup (.cons (.var 2) (.cons (.tup (.cons (.str "any") .nil)) .nil))) (.cons (.tup (.cons (.tup (.cons (.str "any") .nil)) (.cons (.var 3) .nil))) .nil)))))))) (.cons (.ite (.not (.call 94 (.cons (.idx (.var 6) (.int 0)) (.cons (.idx (.var 6) (.int 1)) (.cons (.var 4) (.cons (.var 5) .nil)))))) (.cons (.ret (.bl false)) .nil) .nil) .nil)) (.cons (.ret (.bl true)) .nil)))))))
abbrev fd95 : FD := ⟨1, 7, b95⟩
abbrev n95 : List Str := ["_law_script", "_law_state_here", "_law_one", "_law_other", "_law_number", "_law_side", "_law_pair"]
def fds : List (Nat × FD) := [(12, fd12), (13, fd13), (20, fd20), (19, fd19), (24, fd24), (23, fd23), (26, fd26), (34, fd34), (42, fd42), (43, fd43), (35, fd35), (37, fd37), (44, fd44), (46, fd46), (45, fd45), (48, fd48), (49, fd49), (51, fd51), (50, fd50), (52, fd52), (47, fd47), (58, fd58), (14, fd14), (4, fd4), (29, fd29), (31, fd31), (36, fd36), (30, fd30), (93, fd93), (53, fd53), (54, fd54), (55, fd55), (56, fd56), (94, fd94), (95, fd95)]
def defs (f : Nat) : Option FD := fds.lookup f
def gls : List (Nat × D) := [(0, (.tup [(.str "any")])), (1, (.tup [(.str "int"), (.str "bool"), (.str "unit")])), (2, (.tup [(.str "fun"), (.str "pair"), (.str "box")])), (3, (.int 60))]
def dt0 : List (Str × D) := [("int", (.tup [(.str "int")])), ("bool", (.tup [(.str "bool")])), ("unit", (.tup [(.str "unit")])), ("fun", (.tup [(.str "fun"), (.tup [(.str "any")]), (.tup [(.str "any")])])), ("pair", (.tup [(.str "pair"), (.tup [(.str "any")]), (.tup [(.str "any")])])), ("box", (.tup [(.str "box"), (.tup [(.str "any")])]))]
def dts : List (Nat × List (Str × D)) := [(0, dt0)]
def prg : Prg where
  glob := fun g => gls.lookup g
  gdict := fun g => (dts.lookup g).getD []
  init := fun _ => none
  size := fun _ => 0
def rows : List (Nat × Str × List Str × Nat) := (12, "ground", ["known"], 0) :: (13, "ground_type", ["name"], 0) :: (20, "safe_parts", ["source", "target", "side"], 0) :: (19, "safe", ["source", "target", "side"], 1) :: (24, "compound_check", ["source", "target", "number", "side"], 0) :: (23, "check_of", ["source", "target", "number", "side"], 2) :: (26, "plain_ground", ["check"], 0) :: (34, "inner_checks", ["check"], 0) :: (42, "check_size", ["check"], 0) :: (43, "check_height", ["check"], 0) :: (35, "all_labels", ["check"], 0) :: (37, "labels", ["check"], 0) :: (44, "is_text", ["value"], 0) :: (46, "is_row", ["value", "head", "size"], 0) :: (45, "is_integer", ["value"], 0) :: (48, "is_label", ["value"], 0) :: (49, "is_ground", ["value"], 0) :: (51, "is_plain", ["value", "room"], 0) :: (50, "is_fail", ["value"], 0) :: (52, "is_end", ["value", "name", "room"], 0) :: (47, "is_within", ["value", "room"], 0) :: (58, "is_check", ["value"], 0) :: (14, "_law_state", ["_law_script"], 0) :: (4, "_law_take", ["_law_state_here", "_law_most"], 0) :: (29, "_law_type", ["_law_state_here", "_law_depth_here"], 0) :: (31, "_law_ground_type", ["_law_name"], 0) :: (36, "_law_check", ["_law_one", "_law_other", "_law_number", "_law_side"], 0) :: (30, "_law_partner", ["_law_state_here", "_law_one", "_law_depth_here"], 0) :: (93, "_law_height", ["_law_one"], 0) :: (53, "_law_inner", ["_law_check_here"], 0) :: (54, "_law_size", ["_law_check_here"], 0) :: (55, "_law_depth", ["_law_check_here"], 0) :: (56, "_law_labels", ["_law_check_here"], 0) :: (94, "_law_holds", ["_law_one", "_law_other", "_law_number", "_law_side"], 0) :: (95, "law", ["_law_script"], 0) :: []
def gns : List (Nat × Str) := [(0, "ANY_types"), (0, "ANY_checks"), (1, "SIMPLE"), (2, "COMPOUND"), (3, "MOST_HEIGHT")]
def dns : List (Nat × Str) := [(0, "GROUND_TYPES")]
def tb : Tb := tbOf prg rows gns dns
theorem s12 : C8.scC n12 (tb.params 12) (defScope (top 3)) = true := by decide +kernel
theorem m12 : mSs tb n12 (defScope (top 3)) b12 (defBody (top 3)) = true := by decide +kernel
theorem s13 : C8.scC n13 (tb.params 13) (defScope (top 4)) = true := by decide +kernel
theorem m13 : mSs tb n13 (defScope (top 4)) b13 (defBody (top 4)) = true := by decide +kernel
theorem s20 : C8.scC n20 (tb.params 20) (defScope (top 5)) = true := by decide +kernel
theorem m20 : mSs tb n20 (defScope (top 5)) b20 (defBody (top 5)) = true := by decide +kernel
theorem s19 : C8.scC n19 (tb.params 19) (defScope (top 6)) = true := by decide +kernel
theorem m19 : mSs tb n19 (defScope (top 6)) b19 (defBody (top 6)) = true := by decide +kernel
theorem s24 : C8.scC n24 (tb.params 24) (defScope (top 12)) = true := by decide +kernel
theorem m24 : mSs tb n24 (defScope (top 12)) b24 (defBody (top 12)) = true := by decide +kernel
theorem s23 : C8.scC n23 (tb.params 23) (defScope (top 13)) = true := by decide +kernel
theorem m23 : mSs tb n23 (defScope (top 13)) b23 (defBody (top 13)) = true := by decide +kernel
theorem s26 : C8.scC n26 (tb.params 26) (defScope (top 14)) = true := by decide +kernel
theorem m26 : mSs tb n26 (defScope (top 14)) b26 (defBody (top 14)) = true := by decide +kernel
theorem s34 : C8.scC n34 (tb.params 34) (defScope (top 15)) = true := by decide +kernel
theorem m34 : mSs tb n34 (defScope (top 15)) b34 (defBody (top 15)) = true := by decide +kernel
theorem s42 : C8.scC n42 (tb.params 42) (defScope (top 16)) = true := by decide +kernel
theorem m42 : mSs tb n42 (defScope (top 16)) b42 (defBody (top 16)) = true := by decide +kernel
theorem s43 : C8.scC n43 (tb.params 43) (defScope (top 17)) = true := by decide +kernel
theorem m43 : mSs tb n43 (defScope (top 17)) b43 (defBody (top 17)) = true := by decide +kernel
theorem s35 : C8.scC n35 (tb.params 35) (defScope (top 18)) = true := by decide +kernel
theorem m35 : mSs tb n35 (defScope (top 18)) b35 (defBody (top 18)) = true := by decide +kernel
theorem s37 : C8.scC n37 (tb.params 37) (defScope (top 19)) = true := by decide +kernel
theorem m37 : mSs tb n37 (defScope (top 19)) b37 (defBody (top 19)) = true := by decide +kernel
theorem s44 : C8.scC n44 (tb.params 44) (defScope (top 20)) = true := by decide +kernel
theorem m44 : mSs tb n44 (defScope (top 20)) b44 (defBody (top 20)) = true := by decide +kernel
theorem s46 : C8.scC n46 (tb.params 46) (defScope (top 21)) = true := by decide +kernel
theorem m46 : mSs tb n46 (defScope (top 21)) b46 (defBody (top 21)) = true := by decide +kernel
theorem s45 : C8.scC n45 (tb.params 45) (defScope (top 22)) = true := by decide +kernel
theorem m45 : mSs tb n45 (defScope (top 22)) b45 (defBody (top 22)) = true := by decide +kernel
theorem s48 : C8.scC n48 (tb.params 48) (defScope (top 23)) = true := by decide +kernel
theorem m48 : mSs tb n48 (defScope (top 23)) b48 (defBody (top 23)) = true := by decide +kernel
theorem s49 : C8.scC n49 (tb.params 49) (defScope (top 24)) = true := by decide +kernel
theorem m49 : mSs tb n49 (defScope (top 24)) b49 (defBody (top 24)) = true := by decide +kernel
theorem s51 : C8.scC n51 (tb.params 51) (defScope (top 25)) = true := by decide +kernel
theorem m51 : mSs tb n51 (defScope (top 25)) b51 (defBody (top 25)) = true := by decide +kernel
theorem s50 : C8.scC n50 (tb.params 50) (defScope (top 26)) = true := by decide +kernel
theorem m50 : mSs tb n50 (defScope (top 26)) b50 (defBody (top 26)) = true := by decide +kernel
theorem s52 : C8.scC n52 (tb.params 52) (defScope (top 27)) = true := by decide +kernel
theorem m52 : mSs tb n52 (defScope (top 27)) b52 (defBody (top 27)) = true := by decide +kernel
theorem s47 : C8.scC n47 (tb.params 47) (defScope (top 28)) = true := by decide +kernel
theorem m47 : mSs tb n47 (defScope (top 28)) b47 (defBody (top 28)) = true := by decide +kernel
theorem s58 : C8.scC n58 (tb.params 58) (defScope (top 29)) = true := by decide +kernel
theorem m58 : mSs tb n58 (defScope (top 29)) b58 (defBody (top 29)) = true := by decide +kernel
theorem s14 : C8.scC n14 (tb.params 14) (defScope (top 31)) = true := by decide +kernel
theorem m14 : mSs tb n14 (defScope (top 31)) b14 (defBody (top 31)) = true := by decide +kernel
theorem s4 : C8.scC n4 (tb.params 4) (defScope (top 32)) = true := by decide +kernel
theorem m4 : mSs tb n4 (defScope (top 32)) b4 (defBody (top 32)) = true := by decide +kernel
theorem s29 : C8.scC n29 (tb.params 29) (defScope (top 33)) = true := by decide +kernel
theorem m29 : mSs tb n29 (defScope (top 33)) b29 (defBody (top 33)) = true := by decide +kernel
theorem s31 : C8.scC n31 (tb.params 31) (defScope (top 35)) = true := by decide +kernel
theorem m31 : mSs tb n31 (defScope (top 35)) b31 (defBody (top 35)) = true := by decide +kernel
theorem s36 : C8.scC n36 (tb.params 36) (defScope (top 36)) = true := by decide +kernel
theorem m36 : mSs tb n36 (defScope (top 36)) b36 (defBody (top 36)) = true := by decide +kernel
theorem s30 : C8.scC n30 (tb.params 30) (defScope (top 37)) = true := by decide +kernel
theorem m30 : mSs tb n30 (defScope (top 37)) b30 (defBody (top 37)) = true := by decide +kernel
theorem s93 : C8.scC n93 (tb.params 93) (defScope (top 38)) = true := by decide +kernel
theorem m93 : mSs tb n93 (defScope (top 38)) b93 (defBody (top 38)) = true := by decide +kernel
theorem s53 : C8.scC n53 (tb.params 53) (defScope (top 39)) = true := by decide +kernel
theorem m53 : mSs tb n53 (defScope (top 39)) b53 (defBody (top 39)) = true := by decide +kernel
theorem s54 : C8.scC n54 (tb.params 54) (defScope (top 40)) = true := by decide +kernel
theorem m54 : mSs tb n54 (defScope (top 40)) b54 (defBody (top 40)) = true := by decide +kernel
theorem s55 : C8.scC n55 (tb.params 55) (defScope (top 41)) = true := by decide +kernel
theorem m55 : mSs tb n55 (defScope (top 41)) b55 (defBody (top 41)) = true := by decide +kernel
theorem s56 : C8.scC n56 (tb.params 56) (defScope (top 42)) = true := by decide +kernel
theorem m56 : mSs tb n56 (defScope (top 42)) b56 (defBody (top 42)) = true := by decide +kernel
theorem s94 : C8.scC n94 (tb.params 94) (defScope (top 43)) = true := by decide +kernel
theorem m94 : mSs tb n94 (defScope (top 43)) b94 (defBody (top 43)) = true := by decide +kernel
theorem s95 : C8.scC n95 (tb.params 95) (defScope (top 44)) = true := by decide +kernel
theorem m95 : mSs tb n95 (defScope (top 44)) b95 (defBody (top 44)) = true := by decide +kernel
def dd12 : He.DefD := ⟨("ground", none), "ground", "ground", defArgs (top 3), defBody (top 3), defScope (top 3), [], []⟩
def dd13 : He.DefD := ⟨("ground_type", none), "ground_type", "ground_type", defArgs (top 4), defBody (top 4), defScope (top 4), [], []⟩
def dd20 : He.DefD := ⟨("safe_parts", none), "safe_parts", "safe_parts", defArgs (top 5), defBody (top 5), defScope (top 5), [], []⟩
def dd19 : He.DefD := ⟨("safe", none), "safe", "safe", defArgs (top 6), defBody (top 6), defScope (top 6), [], []⟩
def dd24 : He.DefD := ⟨("compound_check", none), "compound_check", "compound_check", defArgs (top 12), defBody (top 12), defScope (top 12), [], []⟩
def dd23 : He.DefD := ⟨("check_of", none), "check_of", "check_of", defArgs (top 13), defBody (top 13), defScope (top 13), [], []⟩
def dd26 : He.DefD := ⟨("plain_ground", none), "plain_ground", "plain_ground", defArgs (top 14), defBody (top 14), defScope (top 14), [], []⟩
def dd34 : He.DefD := ⟨("inner_checks", none), "inner_checks", "inner_checks", defArgs (top 15), defBody (top 15), defScope (top 15), [], []⟩
def dd42 : He.DefD := ⟨("check_size", none), "check_size", "check_size", defArgs (top 16), defBody (top 16), defScope (top 16), [], []⟩
def dd43 : He.DefD := ⟨("check_height", none), "check_height", "check_height", defArgs (top 17), defBody (top 17), defScope (top 17), [], []⟩
def dd35 : He.DefD := ⟨("all_labels", none), "all_labels", "all_labels", defArgs (top 18), defBody (top 18), defScope (top 18), [], []⟩
def dd37 : He.DefD := ⟨("labels", none), "labels", "labels", defArgs (top 19), defBody (top 19), defScope (top 19), [], []⟩
def dd44 : He.DefD := ⟨("is_text", none), "is_text", "is_text", defArgs (top 20), defBody (top 20), defScope (top 20), [], []⟩
def dd46 : He.DefD := ⟨("is_row", none), "is_row", "is_row", defArgs (top 21), defBody (top 21), defScope (top 21), [], []⟩
def dd45 : He.DefD := ⟨("is_integer", none), "is_integer", "is_integer", defArgs (top 22), defBody (top 22), defScope (top 22), [], []⟩
def dd48 : He.DefD := ⟨("is_label", none), "is_label", "is_label", defArgs (top 23), defBody (top 23), defScope (top 23), [], []⟩
def dd49 : He.DefD := ⟨("is_ground", none), "is_ground", "is_ground", defArgs (top 24), defBody (top 24), defScope (top 24), [], []⟩
def dd51 : He.DefD := ⟨("is_plain", none), "is_plain", "is_plain", defArgs (top 25), defBody (top 25), defScope (top 25), [], []⟩
def dd50 : He.DefD := ⟨("is_fail", none), "is_fail", "is_fail", defArgs (top 26), defBody (top 26), defScope (top 26), [], []⟩
def dd52 : He.DefD := ⟨("is_end", none), "is_end", "is_end", defArgs (top 27), defBody (top 27), defScope (top 27), [], []⟩
def dd47 : He.DefD := ⟨("is_within", none), "is_within", "is_within", defArgs (top 28), defBody (top 28), defScope (top 28), [], []⟩
def dd58 : He.DefD := ⟨("is_check", none), "is_check", "is_check", defArgs (top 29), defBody (top 29), defScope (top 29), [], []⟩
def dd14 : He.DefD := ⟨("_law_state", none), "_law_state", "_law_state", defArgs (top 31), defBody (top 31), defScope (top 31), [], []⟩
def dd4 : He.DefD := ⟨("_law_take", none), "_law_take", "_law_take", defArgs (top 32), defBody (top 32), defScope (top 32), [], []⟩
def dd29 : He.DefD := ⟨("_law_type", none), "_law_type", "_law_type", defArgs (top 33), defBody (top 33), defScope (top 33), [], []⟩
def dd31 : He.DefD := ⟨("_law_ground_type", none), "_law_ground_type", "_law_ground_type", defArgs (top 35), defBody (top 35), defScope (top 35), [], []⟩
def dd36 : He.DefD := ⟨("_law_check", none), "_law_check", "_law_check", defArgs (top 36), defBody (top 36), defScope (top 36), [], []⟩
def dd30 : He.DefD := ⟨("_law_partner", none), "_law_partner", "_law_partner", defArgs (top 37), defBody (top 37), defScope (top 37), [], []⟩
def dd93 : He.DefD := ⟨("_law_height", none), "_law_height", "_law_height", defArgs (top 38), defBody (top 38), defScope (top 38), [], []⟩
def dd53 : He.DefD := ⟨("_law_inner", none), "_law_inner", "_law_inner", defArgs (top 39), defBody (top 39), defScope (top 39), [], []⟩
def dd54 : He.DefD := ⟨("_law_size", none), "_law_size", "_law_size", defArgs (top 40), defBody (top 40), defScope (top 40), [], []⟩
def dd55 : He.DefD := ⟨("_law_depth", none), "_law_depth", "_law_depth", defArgs (top 41), defBody (top 41), defScope (top 41), [], []⟩
def dd56 : He.DefD := ⟨("_law_labels", none), "_law_labels", "_law_labels", defArgs (top 42), defBody (top 42), defScope (top 42), [], []⟩
def dd94 : He.DefD := ⟨("_law_holds", none), "_law_holds", "_law_holds", defArgs (top 43), defBody (top 43), defScope (top 43), [], []⟩
def dd95 : He.DefD := ⟨("law", none), "law", "law", defArgs (top 44), defBody (top 44), defScope (top 44), [], []⟩
def look : Look where
  fn := [dd12, dd13, dd20, dd19, dd24, dd23, dd26, dd34, dd42, dd43, dd35, dd37, dd44, dd46, dd45, dd48, dd49, dd51, dd50, dd52, dd47, dd58, dd14, dd4, dd29, dd31, dd36, dd30, dd93, dd53, dd54, dd55, dd56, dd94, dd95]
  ts := []
  glob := [("ANY_types", (.tup [(.str "any")])), ("ANY_checks", (.tup [(.str "any")])), ("SIMPLE", (.tup [(.str "int"), (.str "bool"), (.str "unit")])), ("COMPOUND", (.tup [(.str "fun"), (.str "pair"), (.str "box")])), ("MOST_HEIGHT", (.int 60))]
  dict := [("GROUND_TYPES", dt0)]
section
variable {K : PySem.W.Frag} {f : Addr} {fd : FuncData}
theorem bd12 (F : FunD K "ground" "ground" (defArgs (top 3)) (defBody (top 3)) (defScope (top 3)) [] [] f fd) : Binds K fd (tb.params 12) [] :=
  F.bindsN fun _ _ _ _ _ _ us hl => match us, hl with | [_], _ => rfl
theorem bd13 (F : FunD K "ground_type" "ground_type" (defArgs (top 4)) (defBody (top 4)) (defScope (top 4)) [] [] f fd) : Binds K fd (tb.params 13) [] :=
  F.bindsN fun _ _ _ _ _ _ us hl => match us, hl with | [_], _ => rfl
theorem bd20 (F : FunD K "safe_parts" "safe_parts" (defArgs (top 5)) (defBody (top 5)) (defScope (top 5)) [] [] f fd) : Binds K fd (tb.params 20) [] :=
  F.bindsN fun _ _ _ _ _ _ us hl => match us, hl with | [_, _, _], _ => rfl
theorem bd19 (F : FunD K "safe" "safe" (defArgs (top 6)) (defBody (top 6)) (defScope (top 6)) [] [] f fd) : KBinds K fd (tb.params 19) ((tb.params 19).drop ((tb.params 19).length - tb.kwn 19)) (kwG 1) (kwG 1) :=
  kw_binds 1 1 F rfl fun kV doc pm an cdv ct us ws hu hw => match us, ws, hu, hw with | [_, _], [_], _, _ => rfl
theorem bd24 (F : FunD K "compound_check" "compound_check" (defArgs (top 12)) (defBody (top 12)) (defScope (top 12)) [] [] f fd) : Binds K fd (tb.params 24) [] :=
  F.bindsN fun _ _ _ _ _ _ us hl => match us, hl with | [_, _, _, _], _ => rfl
theorem bd23 (F : FunD K "check_of" "check_of" (defArgs (top 13)) (defBody (top 13)) (defScope (top 13)) [] [] f fd) : KBinds K fd (tb.params 23) ((tb.params 23).drop ((tb.params 23).length - tb.kwn 23)) (kwG 2) (kwG 2) :=
  kw_binds 1 2 F rfl fun kV doc pm an cdv ct us ws hu hw => match us, ws, hu, hw with | [_, _], [_, _], _, _ => rfl
theorem bd26 (F : FunD K "plain_ground" "plain_ground" (defArgs (top 14)) (defBody (top 14)) (defScope (top 14)) [] [] f fd) : Binds K fd (tb.params 26) [] :=
  F.bindsN fun _ _ _ _ _ _ us hl => match us, hl with | [_], _ => rfl
theorem bd34 (F : FunD K "inner_checks" "inner_checks" (defArgs (top 15)) (defBody (top 15)) (defScope (top 15)) [] [] f fd) : Binds K fd (tb.params 34) [] :=
  F.bindsN fun _ _ _ _ _ _ us hl => match us, hl with | [_], _ => rfl
theorem bd42 (F : FunD K "check_size" "check_size" (defArgs (top 16)) (defBody (top 16)) (defScope (top 16)) [] [] f fd) : Binds K fd (tb.params 42) [] :=
  F.bindsN fun _ _ _ _ _ _ us hl => match us, hl with | [_], _ => rfl
theorem bd43 (F : FunD K "check_height" "check_height" (defArgs (top 17)) (defBody (top 17)) (defScope (top 17)) [] [] f fd) : Binds K fd (tb.params 43) [] :=
  F.bindsN fun _ _ _ _ _ _ us hl => match us, hl with | [_], _ => rfl
theorem bd35 (F : FunD K "all_labels" "all_labels" (defArgs (top 18)) (defBody (top 18)) (defScope (top 18)) [] [] f fd) : Binds K fd (tb.params 35) [] :=
  F.bindsN fun _ _ _ _ _ _ us hl => match us, hl with | [_], _ => rfl
theorem bd37 (F : FunD K "labels" "labels" (defArgs (top 19)) (defBody (top 19)) (defScope (top 19)) [] [] f fd) : Binds K fd (tb.params 37) [] :=
  F.bindsN fun _ _ _ _ _ _ us hl => match us, hl with | [_], _ => rfl
theorem bd44 (F : FunD K "is_text" "is_text" (defArgs (top 20)) (defBody (top 20)) (defScope (top 20)) [] [] f fd) : Binds K fd (tb.params 44) [] :=
  F.bindsN fun _ _ _ _ _ _ us hl => match us, hl with | [_], _ => rfl
theorem bd46 (F : FunD K "is_row" "is_row" (defArgs (top 21)) (defBody (top 21)) (defScope (top 21)) [] [] f fd) : Binds K fd (tb.params 46) [] :=
  F.bindsN fun _ _ _ _ _ _ us hl => match us, hl with | [_, _, _], _ => rfl
theorem bd45 (F : FunD K "is_integer" "is_integer" (defArgs (top 22)) (defBody (top 22)) (defScope (top 22)) [] [] f fd) : Binds K fd (tb.params 45) [] :=
  F.bindsN fun _ _ _ _ _ _ us hl => match us, hl with | [_], _ => rfl
theorem bd48 (F : FunD K "is_label" "is_label" (defArgs (top 23)) (defBody (top 23)) (defScope (top 23)) [] [] f fd) : Binds K fd (tb.params 48) [] :=
  F.bindsN fun _ _ _ _ _ _ us hl => match us, hl with | [_], _ => rfl
theorem bd49 (F : FunD K "is_ground" "is_ground" (defArgs (top 24)) (defBody (top 24)) (defScope (top 24)) [] [] f fd) : Binds K fd (tb.params 49) [] :=
  F.bindsN fun _ _ _ _ _ _ us hl => match us, hl with | [_], _ => rfl
theorem bd51 (F : FunD K "is_plain" "is_plain" (defArgs (top 25)) (defBody (top 25)) (defScope (top 25)) [] [] f fd) : Binds K fd (tb.params 51) [] :=
  F.bindsN fun _ _ _ _ _ _ us hl => match us, hl with | [_, _], _ => rfl
theorem bd50 (F : FunD K "is_fail" "is_fail" (defArgs (top 26)) (defBody (top 26)) (defScope (top 26)) [] [] f fd) : Binds K fd (tb.params 50) [] :=
  F.bindsN fun _ _ _ _ _ _ us hl => match us, hl with | [_], _ => rfl
theorem bd52 (F : FunD K "is_end" "is_end" (defArgs (top 27)) (defBody (top 27)) (defScope (top 27)) [] [] f fd) : Binds K fd (tb.params 52) [] :=
  F.bindsN fun _ _ _ _ _ _ us hl => match us, hl with | [_, _, _], _ => rfl
theorem bd47 (F : FunD K "is_within" "is_within" (defArgs (top 28)) (defBody (top 28)) (defScope (top 28)) [] [] f fd) : Binds K fd (tb.params 47) [] :=
  F.bindsN fun _ _ _ _ _ _ us hl => match us, hl with | [_, _], _ => rfl
theorem bd58 (F : FunD K "is_check" "is_check" (defArgs (top 29)) (defBody (top 29)) (defScope (top 29)) [] [] f fd) : Binds K fd (tb.params 58) [] :=
  F.bindsN fun _ _ _ _ _ _ us hl => match us, hl with | [_], _ => rfl
theorem bd14 (F : FunD K "_law_state" "_law_state" (defArgs (top 31)) (defBody (top 31)) (defScope (top 31)) [] [] f fd) : Binds K fd (tb.params 14) [] :=
  F.bindsN fun _ _ _ _ _ _ us hl => match us, hl with | [_], _ => rfl
theorem bd4 (F : FunD K "_law_take" "_law_take" (defArgs (top 32)) (defBody (top 32)) (defScope (top 32)) [] [] f fd) : Binds K fd (tb.params 4) [] :=
  F.bindsN fun _ _ _ _ _ _ us hl => match us, hl with | [_, _], _ => rfl
theorem bd29 (F : FunD K "_law_type" "_law_type" (defArgs (top 33)) (defBody (top 33)) (defScope (top 33)) [] [] f fd) : Binds K fd (tb.params 29) [] :=
  F.bindsN fun _ _ _ _ _ _ us hl => match us, hl with | [_, _], _ => rfl
theorem bd31 (F : FunD K "_law_ground_type" "_law_ground_type" (defArgs (top 35)) (defBody (top 35)) (defScope (top 35)) [] [] f fd) : Binds K fd (tb.params 31) [] :=
  F.bindsN fun _ _ _ _ _ _ us hl => match us, hl with | [_], _ => rfl
theorem bd36 (F : FunD K "_law_check" "_law_check" (defArgs (top 36)) (defBody (top 36)) (defScope (top 36)) [] [] f fd) : Binds K fd (tb.params 36) [] :=
  F.bindsN fun _ _ _ _ _ _ us hl => match us, hl with | [_, _, _, _], _ => rfl
theorem bd30 (F : FunD K "_law_partner" "_law_partner" (defArgs (top 37)) (defBody (top 37)) (defScope (top 37)) [] [] f fd) : Binds K fd (tb.params 30) [] :=
  F.bindsN fun _ _ _ _ _ _ us hl => match us, hl with | [_, _, _], _ => rfl
theorem bd93 (F : FunD K "_law_height" "_law_height" (defArgs (top 38)) (defBody (top 38)) (defScope (top 38)) [] [] f fd) : Binds K fd (tb.params 93) [] :=
  F.bindsN fun _ _ _ _ _ _ us hl => match us, hl with | [_], _ => rfl
theorem bd53 (F : FunD K "_law_inner" "_law_inner" (defArgs (top 39)) (defBody (top 39)) (defScope (top 39)) [] [] f fd) : Binds K fd (tb.params 53) [] :=
  F.bindsN fun _ _ _ _ _ _ us hl => match us, hl with | [_], _ => rfl
theorem bd54 (F : FunD K "_law_size" "_law_size" (defArgs (top 40)) (defBody (top 40)) (defScope (top 40)) [] [] f fd) : Binds K fd (tb.params 54) [] :=
  F.bindsN fun _ _ _ _ _ _ us hl => match us, hl with | [_], _ => rfl
theorem bd55 (F : FunD K "_law_depth" "_law_depth" (defArgs (top 41)) (defBody (top 41)) (defScope (top 41)) [] [] f fd) : Binds K fd (tb.params 55) [] :=
  F.bindsN fun _ _ _ _ _ _ us hl => match us, hl with | [_], _ => rfl
theorem bd56 (F : FunD K "_law_labels" "_law_labels" (defArgs (top 42)) (defBody (top 42)) (defScope (top 42)) [] [] f fd) : Binds K fd (tb.params 56) [] :=
  F.bindsN fun _ _ _ _ _ _ us hl => match us, hl with | [_], _ => rfl
theorem bd94 (F : FunD K "_law_holds" "_law_holds" (defArgs (top 43)) (defBody (top 43)) (defScope (top 43)) [] [] f fd) : Binds K fd (tb.params 94) [] :=
  F.bindsN fun _ _ _ _ _ _ us hl => match us, hl with | [_, _, _, _], _ => rfl
theorem bd95 (F : FunD K "law" "law" (defArgs (top 44)) (defBody (top 44)) (defScope (top 44)) [] [] f fd) : Binds K fd (tb.params 95) [] :=
  F.bindsN fun _ _ _ _ _ _ us hl => match us, hl with | [_], _ => rfl
end
theorem txt {w : World} {K : PySem.W.Frag} {h : Heap} {mg : Str → Option Value} (X : K.In h) (G : h.Ns mainGlobals mg) (c : SaysM look w K) : Txt tb defs ⟨K, fun _ => 0, fun _ => []⟩ w mg where
  fn := by
    refine all_of (ids := rows) ?_
    refine ⟨?_, ?_, ?_, ?_, ?_, ?_, ?_, ?_, ?_, ?_, ?_, ?_, ?_, ?_, ?_, ?_, ?_, ?_, ?_, ?_, ?_, ?_, ?_, ?_, ?_, ?_, ?_, ?_, ?_, ?_, ?_, ?_, ?_, ?_, ?_, trivial⟩
    · obtain ⟨fd, F⟩ := c.def_ 0 (d := dd12) rfl
      exact ⟨_, fd, _, _, _, _, top 3, n12, b12, c.glo X G 0 (d := dd12) rfl, F, rfl, s12, m12, fun _ => bd12 F, fun h => absurd rfl h⟩
    · obtain ⟨fd, F⟩ := c.def_ 1 (d := dd13) rfl
      exact ⟨_, fd, _, _, _, _, top 4, n13, b13, c.glo X G 1 (d := dd13) rfl, F, rfl, s13, m13, fun _ => bd13 F, fun h => absurd rfl h⟩
    · obtain ⟨fd, F⟩ := c.def_ 2 (d := dd20) rfl
      exact ⟨_, fd, _, _, _, _, top 5, n20, b20, c.glo X G 2 (d := dd20) rfl, F, rfl, s20, m20, fun _ => bd20 F, fun h => absurd rfl h⟩
    · obtain ⟨fd, F⟩ := c.def_ 3 (d := dd19) rfl
      exact ⟨_, fd, _, _, _, _, top 6, n19, b19, c.glo X G 3 (d := dd19) rfl, F, rfl, s19, m19, fun h => absurd h (by decide), fun _ => bd19 F⟩
    · obtain ⟨fd, F⟩ := c.def_ 4 (d := dd24) rfl
      exact ⟨_, fd, _, _, _, _, top 12, n24, b24, c.glo X G 4 (d := dd24) rfl, F, rfl, s24, m24, fun _ => bd24 F, fun h => absurd rfl h⟩
    · obtain ⟨fd, F⟩ := c.def_ 5 (d := dd23) rfl
      exact ⟨_, fd, _, _, _, _, top 13, n23, b23, c.glo X G 5 (d := dd23) rfl, F, rfl, s23, m23, fun h => absurd h (by decide), fun _ => bd23 F⟩
    · obtain ⟨fd, F⟩ := c.def_ 6 (d := dd26) rfl
      exact ⟨_, fd, _, _, _, _, top 14, n26, b26, c.glo X G 6 (d := dd26) rfl, F, rfl, s26, m26, fun _ => bd26 F, fun h => absurd rfl h⟩
    · obtain ⟨fd, F⟩ := c.def_ 7 (d := dd34) rfl
      exact ⟨_, fd, _, _, _, _, top 15, n34, b34, c.glo X G 7 (d := dd34) rfl, F, rfl, s34, m34, fun _ => bd34 F, fun h => absurd rfl h⟩
    · obtain ⟨fd, F⟩ := c.def_ 8 (d := dd42) rfl
      exact ⟨_, fd, _, _, _, _, top 16, n42, b42, c.glo X G 8 (d := dd42) rfl, F, rfl, s42, m42, fun _ => bd42 F, fun h => absurd rfl h⟩
    · obtain ⟨fd, F⟩ := c.def_ 9 (d := dd43) rfl
      exact ⟨_, fd, _, _, _, _, top 17, n43, b43, c.glo X G 9 (d := dd43) rfl, F, rfl, s43, m43, fun _ => bd43 F, fun h => absurd rfl h⟩
    · obtain ⟨fd, F⟩ := c.def_ 10 (d := dd35) rfl
      exact ⟨_, fd, _, _, _, _, top 18, n35, b35, c.glo X G 10 (d := dd35) rfl, F, rfl, s35, m35, fun _ => bd35 F, fun h => absurd rfl h⟩
    · obtain ⟨fd, F⟩ := c.def_ 11 (d := dd37) rfl
      exact ⟨_, fd, _, _, _, _, top 19, n37, b37, c.glo X G 11 (d := dd37) rfl, F, rfl, s37, m37, fun _ => bd37 F, fun h => absurd rfl h⟩
    · obtain ⟨fd, F⟩ := c.def_ 12 (d := dd44) rfl
      exact ⟨_, fd, _, _, _, _, top 20, n44, b44, c.glo X G 12 (d := dd44) rfl, F, rfl, s44, m44, fun _ => bd44 F, fun h => absurd rfl h⟩
    · obtain ⟨fd, F⟩ := c.def_ 13 (d := dd46) rfl
      exact ⟨_, fd, _, _, _, _, top 21, n46, b46, c.glo X G 13 (d := dd46) rfl, F, rfl, s46, m46, fun _ => bd46 F, fun h => absurd rfl h⟩
    · obtain ⟨fd, F⟩ := c.def_ 14 (d := dd45) rfl
      exact ⟨_, fd, _, _, _, _, top 22, n45, b45, c.glo X G 14 (d := dd45) rfl, F, rfl, s45, m45, fun _ => bd45 F, fun h => absurd rfl h⟩
    · obtain ⟨fd, F⟩ := c.def_ 15 (d := dd48) rfl
      exact ⟨_, fd, _, _, _, _, top 23, n48, b48, c.glo X G 15 (d := dd48) rfl, F, rfl, s48, m48, fun _ => bd48 F, fun h => absurd rfl h⟩
    · obtain ⟨fd, F⟩ := c.def_ 16 (d := dd49) rfl
      exact ⟨_, fd, _, _, _, _, top 24, n49, b49, c.glo X G 16 (d := dd49) rfl, F, rfl, s49, m49, fun _ => bd49 F, fun h => absurd rfl h⟩
    · obtain ⟨fd, F⟩ := c.def_ 17 (d := dd51) rfl
      exact ⟨_, fd, _, _, _, _, top 25, n51, b51, c.glo X G 17 (d := dd51) rfl, F, rfl, s51, m51, fun _ => bd51 F, fun h => absurd rfl h⟩
    · obtain ⟨fd, F⟩ := c.def_ 18 (d := dd50) rfl
      exact ⟨_, fd, _, _, _, _, top 26, n50, b50, c.glo X G 18 (d := dd50) rfl, F, rfl, s50, m50, fun _ => bd50 F, fun h => absurd rfl h⟩
    · obtain ⟨fd, F⟩ := c.def_ 19 (d := dd52) rfl
      exact ⟨_, fd, _, _, _, _, top 27, n52, b52, c.glo X G 19 (d := dd52) rfl, F, rfl, s52, m52, fun _ => bd52 F, fun h => absurd rfl h⟩
    · obtain ⟨fd, F⟩ := c.def_ 20 (d := dd47) rfl
      exact ⟨_, fd, _, _, _, _, top 28, n47, b47, c.glo X G 20 (d := dd47) rfl, F, rfl, s47, m47, fun _ => bd47 F, fun h => absurd rfl h⟩
    · obtain ⟨fd, F⟩ := c.def_ 21 (d := dd58) rfl
      exact ⟨_, fd, _, _, _, _, top 29, n58, b58, c.glo X G 21 (d := dd58) rfl, F, rfl, s58, m58, fun _ => bd58 F, fun h => absurd rfl h⟩
    · obtain ⟨fd, F⟩ := c.def_ 22 (d := dd14) rfl
      exact ⟨_, fd, _, _, _, _, top 31, n14, b14, c.glo X G 22 (d := dd14) rfl, F, rfl, s14, m14, fun _ => bd14 F, fun h => absurd rfl h⟩
    · obtain ⟨fd, F⟩ := c.def_ 23 (d := dd4) rfl
      exact ⟨_, fd, _, _, _, _, top 32, n4, b4, c.glo X G 23 (d := dd4) rfl, F, rfl, s4, m4, fun _ => bd4 F, fun h => absurd rfl h⟩
    · obtain ⟨fd, F⟩ := c.def_ 24 (d := dd29) rfl
      exact ⟨_, fd, _, _, _, _, top 33, n29, b29, c.glo X G 24 (d := dd29) rfl, F, rfl, s29, m29, fun _ => bd29 F, fun h => absurd rfl h⟩
    · obtain ⟨fd, F⟩ := c.def_ 25 (d := dd31) rfl
      exact ⟨_, fd, _, _, _, _, top 35, n31, b31, c.glo X G 25 (d := dd31) rfl, F, rfl, s31, m31, fun _ => bd31 F, fun h => absurd rfl h⟩
    · obtain ⟨fd, F⟩ := c.def_ 26 (d := dd36) rfl
      exact ⟨_, fd, _, _, _, _, top 36, n36, b36, c.glo X G 26 (d := dd36) rfl, F, rfl, s36, m36, fun _ => bd36 F, fun h => absurd rfl h⟩
    · obtain ⟨fd, F⟩ := c.def_ 27 (d := dd30) rfl
      exact ⟨_, fd, _, _, _, _, top 37, n30, b30, c.glo X G 27 (d := dd30) rfl, F, rfl, s30, m30, fun _ => bd30 F, fun h => absurd rfl h⟩
    · obtain ⟨fd, F⟩ := c.def_ 28 (d := dd93) rfl
      exact ⟨_, fd, _, _, _, _, top 38, n93, b93, c.glo X G 28 (d := dd93) rfl, F, rfl, s93, m93, fun _ => bd93 F, fun h => absurd rfl h⟩
    · obtain ⟨fd, F⟩ := c.def_ 29 (d := dd53) rfl
      exact ⟨_, fd, _, _, _, _, top 39, n53, b53, c.glo X G 29 (d := dd53) rfl, F, rfl, s53, m53, fun _ => bd53 F, fun h => absurd rfl h⟩
    · obtain ⟨fd, F⟩ := c.def_ 30 (d := dd54) rfl
      exact ⟨_, fd, _, _, _, _, top 40, n54, b54, c.glo X G 30 (d := dd54) rfl, F, rfl, s54, m54, fun _ => bd54 F, fun h => absurd rfl h⟩
    · obtain ⟨fd, F⟩ := c.def_ 31 (d := dd55) rfl
      exact ⟨_, fd, _, _, _, _, top 41, n55, b55, c.glo X G 31 (d := dd55) rfl, F, rfl, s55, m55, fun _ => bd55 F, fun h => absurd rfl h⟩
    · obtain ⟨fd, F⟩ := c.def_ 32 (d := dd56) rfl
      exact ⟨_, fd, _, _, _, _, top 42, n56, b56, c.glo X G 32 (d := dd56) rfl, F, rfl, s56, m56, fun _ => bd56 F, fun h => absurd rfl h⟩
    · obtain ⟨fd, F⟩ := c.def_ 33 (d := dd94) rfl
      exact ⟨_, fd, _, _, _, _, top 43, n94, b94, c.glo X G 33 (d := dd94) rfl, F, rfl, s94, m94, fun _ => bd94 F, fun h => absurd rfl h⟩
    · obtain ⟨fd, F⟩ := c.def_ 34 (d := dd95) rfl
      exact ⟨_, fd, _, _, _, _, top 44, n95, b95, c.glo X G 34 (d := dd95) rfl, F, rfl, s95, m95, fun _ => bd95 F, fun h => absurd rfl h⟩
  len := lens_of (by decide +kernel)
  glob := fun g d x h hx => by
    refine all_mem (l := gls) (P := fun g d => ∀ x ∈ tb.gname g, ∃ v u, mg x = some u ∧ RelV v u ∧ ∀ (M : Mp) (n : Nat), Rp ⟨K, fun _ => 0, fun _ => []⟩ M n d v) ?_ h x hx
    exact ⟨all_in (P := fun x => ∃ v u, mg x = some u ∧ RelV v u ∧ ∀ (M : Mp) (n : Nat), Rp ⟨K, fun _ => 0, fun _ => []⟩ M n (.tup [(.str "any")]) v) (l := ["ANY_types", "ANY_checks"]) ⟨c.glob X G (List.mem_of_getElem? (i := 0) rfl), c.glob X G (List.mem_of_getElem? (i := 1) rfl), trivial⟩, all_in (P := fun x => ∃ v u, mg x = some u ∧ RelV v u ∧ ∀ (M : Mp) (n : Nat), Rp ⟨K, fun _ => 0, fun _ => []⟩ M n (.tup [(.str "int"), (.str "bool"), (.str "unit")]) v) (l := ["SIMPLE"]) ⟨c.glob X G (List.mem_of_getElem? (i := 2) rfl), trivial⟩, all_in (P := fun x => ∃ v u, mg x = some u ∧ RelV v u ∧ ∀ (M : Mp) (n : Nat), Rp ⟨K, fun _ => 0, fun _ => []⟩ M n (.tup [(.str "fun"), (.str "pair"), (.str "box")]) v) (l := ["COMPOUND"]) ⟨c.glob X G (List.mem_of_getElem? (i := 3) rfl), trivial⟩, all_in (P := fun x => ∃ v u, mg x = some u ∧ RelV v u ∧ ∀ (M : Mp) (n : Nat), Rp ⟨K, fun _ => 0, fun _ => []⟩ M n (.int 60) v) (l := ["MOST_HEIGHT"]) ⟨c.glob X G (List.mem_of_getElem? (i := 4) rfl), trivial⟩, trivial⟩
  gd := fun g k d h => by
    refine all_dict (l := dts) (P := fun g k d => ∃ p v, mg (tb.dname g) = some (.ref p) ∧ KDct K w p k v ∧ ∀ (M : Mp) (n : Nat), Rp ⟨K, fun _ => 0, fun _ => []⟩ M n d v) ?_ h
    exact ⟨fun k d h => c.dict X G (List.mem_of_getElem? (i := 0) rfl) (lookup_mem h), trivial⟩
  bi := c.bi X G
theorem law_binds {K : PySem.W.Frag} {f : Addr} {fd : FuncData} (F : FunD K "law" "law" (defArgs (top 44)) (defBody (top 44)) (defScope (top 44)) [] [] f fd) (s : Shared) (v : Value) : BindsTo s fd ⟨[v], []⟩ [("_law_script", v)] :=
  F.bindsA (ps := ["_law_script"]) (fun _ _ _ _ _ _ us hl => match us, hl with | [_], _ => rfl) s [v] rfl
theorem all_mk {n : Nat} {P : Program} {w : World} {K : PySem.W.Frag} {h : Heap} {mg : Str → Option Value} {fa : Addr} (X : K.In h) (G : h.Ns mainGlobals mg) (hfa : mg "law" = some (.ref fa)) (c : SaysM look w K) :
    ∃ fd : FuncData, (∀ (s : Shared) (v : Value), BindsTo s fd ⟨[v], []⟩ [("_law_script", v)]) ∧ ∀ base : Heap, K.In base → base.Ns mainGlobals mg → FnG P w K mg base (n + 1) fa fd ["_law_script"] (spF ⟨K, fun _ => 0, fun _ => []⟩ 1 (callF prg defs (n + 1) 95)) := by
  obtain ⟨fd, F⟩ := c.def_ 34 (d := dd95) rfl
  have e := hfa.symm.trans (c.glo X G 34 (d := dd95) rfl)
  cases e
  refine ⟨fd, law_binds F, fun base _ _ => ?_⟩
  have e : callF prg defs (n + 1) 95 = runD prg (callP prg defs n).1 (callP prg defs n).2 fd95 := by
    funext ds S
    exact callF_at rfl
  rw [e]
  exact def_ok (T := tb) (mk := (callP prg defs n).2) (facts (txt X G c) n) F s95 m95
theorem walk {n : Nat} (hr : Room (n + 1) callerA) (run : ∀ ns : List Int, ns.length ≤ 63 → ∃ S, callF prg defs (n + 1) 95 [.scr (ns.map D.int)] [] = some (.bl true, S)) {l : PySem.W.OpenLaw} {q : Program} {loose : List Str} {XP : (Str → Option Value) → Heap → Prop} {YP : World → Heap → Prop} {d : DefRec} {K : Params → PySem.W.Frag} (hn : l.most = some 63) (hdf : d.params.defaults = []) (hnm : d.name = "law")
    (hY : ∀ (w : World) (h : Heap), YP w h → (K w.params).In h) (hc : ∀ w : World, SaysM look w (K w.params)) : PySem.W.WalkO q loose XP YP l.row.toRowW d [] (fun f vs => PySem.call f vs) :=
  g_walk (m := 63) (n := n + 1) (x := "_law_script") (sp := fun w => spF ⟨K w.params, fun _ => 0, fun _ => []⟩ 1 (callF prg defs (n + 1) 95)) hn (by decide) hdf hr hY (fun w mg fa h X G hfa => all_mk X G (by rw [← hnm]; exact hfa) (hc w)) fun _ _ a ns hl _ hS => law_promise (run ns hl) hS
abbrev lawN : Nat := 95
def lev : Nat := 119
section
theorem ite_no {P : Prg} {c m : CallF} {t : E} {a : Ss} {ρ : HN.Env} {S : Store} (h : evT P c m t ρ S = some (false, S)) : exS P c m (.ite t a .nil) ρ S = some (.nx ρ S) := by
  simp [exS, h, exSs]
theorem or2 {P : Prg} {c m : CallF} {s t : E} {ρ : HN.Env} {S : Store} (h1 : evT P c m s ρ S = some (false, S)) (h2 : evT P c m t ρ S = some (false, S)) : evT P c m (.or (.cons s (.cons t .nil))) ρ S = some (false, S) := by
  simp [evT, evOrT, h1, h2]
theorem or3 {P : Prg} {c m : CallF} {s t u : E} {ρ : HN.Env} {S : Store} (h1 : evT P c m s ρ S = some (false, S)) (h2 : evT P c m t ρ S = some (false, S)) (h3 : evT P c m u ρ S = some (false, S)) : evT P c m (.or (.cons s (.cons t (.cons u .nil)))) ρ S = some (false, S) := by
  simp [evT, evOrT, h1, h2, h3]
theorem lb_dep (F : List (Int × Int)) : D.depL (F.map lbD) ≤ 1 := by
  induction F with
  | nil => simp [D.depL]
  | cons x F ih => simp only [List.map_cons, D.depL, lbD, D.dep]; omega
theorem lb_refl (F : List (Int × Int)) : eqD (.lst (F.map lbD)) (.lst (F.map lbD)) = some true :=
  eq_refl (lb_data F) (by have := lb_dep F; simp only [D.dep]; omega)
def hb : Ss := match b94.drop 5 with
  | .cons (.forS _ _ _ b) _ => b
  | _ => .nil
theorem hturn {mk : CallF} {s5 s6 s7 s8 s9 : Slot} {k s t u : Int} {A B : Ty} {c : Ck} {b : Bool} {st : Store} (es : callF prg defs 118 19 [A.d, B.d, .int t] st = some (.bl b, st)) (el : callF prg defs 118 56 [c.d] st = some (.lst (c.ul.map lbD), st)) (hu : (s + 1 + t) % 2 = u) (hc : c.ul.contains (k, u) = !b) :
    turnF true [5] none (exSs prg (callF prg defs 118) mk hb) (.int t) [.val A.d, .val B.d, .val (.int k), .val (.int s), .val c.d, s5, s6, s7, s8, s9] st = some (.nx [.val A.d, .val B.d, .val (.int k), .val (.int s), .val c.d, .val (.int t), s6, s7, .val (.bl b), .val (lbD (k, u))] st) := by
  have q := lb_in (k, u) c.ul
  rw [hc] at q
  have body : exSs prg (callF prg defs 118) mk hb [.val A.d, .val B.d, .val (.int k), .val (.int s), .val c.d, .val (.int t), s6, s7, s8, s9] st = some (.nx [.val A.d, .val B.d, .val (.int k), .val (.int s), .val c.d, .val (.int t), s6, s7, .val (.bl b), .val (lbD (k, u))] st) := by
    simp only [hb, b94, Ss.drop]
    rw [exSs_nx (ρ1 := [.val A.d, .val B.d, .val (.int k), .val (.int s), .val c.d, .val (.int t), s6, s7, .val (.bl b), s9]) (S1 := st) (by simp [exS, evE, evEs, getV, putV, es])]
    rw [exSs_nx (ρ1 := [.val A.d, .val B.d, .val (.int k), .val (.int s), .val c.d, .val (.int t), s6, s7, .val (.bl b), .val (lbD (k, u))]) (S1 := st) (by simp [exS, evE, evEs, getV, putV, binD, szOk, lbD, hu])]
    generalize lbD (k, u) = Lb at q ⊢
    generalize c.ul.map lbD = Z at q el
    rw [exSs_nx (ite_no (or2 (by cases b <;> simp [evT, evAndT, evE, getV, cmpD, isD]) (by cases b <;> simp [evT, evE, evEs, getV, cmpD, el, q, eq_bl])))]
    rfl
  simp [turnF, putT, putV, body, kept_none]
theorem holds_ok {A B : Ty} {k s : Int} (hf : A.fits B = true) (hA : A.h ≤ 5) (hB : B.h ≤ 5) (k0 : 0 ≤ k) (k1 : k < 1000000) (s01 : s = 0 ∨ s = 1) (st : Store) : callF prg defs 119 94 [A.d, B.d, .int k, .int s] st = some (.bl true, st) := by
  have ok := Ck.of_ok (n := k) (s := s) hf
  have gl := Ck.gl_of k0 k1 _ s A B (Nat.le_refl _) s01
  have ht := Ck.of_ht (n := k) (s := s) hf
  have cof := cof_run (P := prg) (defs := defs) rfl rfl rfl rfl rfl rfl rfl k (A.h + B.h) 118 s A B st (Nat.le_refl _) (by omega) hf
  have lck := lck_run (P := prg) (defs := defs) rfl rfl k (A.h + B.h) 118 s A B st (Nat.le_refl _) (by omega) hf
  obtain ⟨f1, f0⟩ := sf_labs k _ A B (Nat.le_refl _) hf s s01
  generalize Ck.of k s A B = J at *
  have dp := (Ck.dp_ht J A B ok).1
  have z4 := (Ck.sz_le J A B ok).1
  have hz2 : 2 ^ J.ht ≤ 2 ^ 5 := Nat.pow_le_pow_right (by decide) (by omega)
  have z3 : J.sz ≤ 93 := by omega
  have u3 := J.ul_len
  have es := Ck.eq_self J (by omega)
  have ck := check_run (P := prg) (defs := defs) rfl rfl rfl rfl rfl rfl rfl rfl rfl rfl rfl rfl rfl rfl ok gl (by omega) (n := 117) (by omega) st
  have t3 := ldepth_run (P := prg) (defs := defs) rfl rfl J (n := 118) st (by omega)
  have t4 := hgt_run (P := prg) (defs := defs) rfl rfl rfl J (n := 118) st (by omega)
  have t5 := size_run (P := prg) (defs := defs) rfl rfl rfl J (n := 118) st (by omega)
  have t6 := lsize_run (P := prg) (defs := defs) rfl rfl J (n := 118) st (by omega)
  have l3 := llabs_run (P := prg) (defs := defs) rfl rfl J (n := 118) st (by omega) (by omega)
  have l4 := labels_run (P := prg) (defs := defs) rfl rfl rfl rfl J (n := 117) st (by omega) (by have := J.labs_sz; omega)
  rw [J.keys_ul] at l4
  have hA' := lheight_run (P := prg) (defs := defs) rfl A (n := 118) st (by omega)
  have hB' := lheight_run (P := prg) (defs := defs) rfl B (n := 118) st (by omega)
  have sf := safe_ok (P := prg) (defs := defs) rfl rfl rfl rfl rfl rfl 12 (n := 118) (by decide)
  have sf0 := sf.s0 A B st (by omega)
  have sf1 := sf.s1 A B st (by omega)
  have lr := lb_refl J.ul
  have c1 : J.ul.contains (k, s) = !Ty.sf true A B := by
    rw [Bool.eq_iff_iff, List.contains_iff_mem, Ck.mem_ul, f1]; simp
  have c0 : J.ul.contains (k, 1 - s) = !Ty.sf false A B := by
    rw [Bool.eq_iff_iff, List.contains_iff_mem, Ck.mem_ul, f0]; simp
  let mk : CallF := (callP prg defs 118).2
  have e0 := fun s5 s6 s7 s8 s9 => hturn (mk := mk) (s5 := s5) (s6 := s6) (s7 := s7) (s8 := s8) (s9 := s9) (k := k) (s := s) (t := 0) (u := 1 - s) sf0 l3 (by omega) c0
  have e1 := fun s5 s6 s7 s8 s9 => hturn (mk := mk) (s5 := s5) (s6 := s6) (s7 := s7) (s8 := s8) (s9 := s9) (k := k) (s := s) (t := 1) (u := s) sf1 l3 (by omega) c1
  rw [callF_on (show defs 94 = some fd94 from rfl)]
  refine runD_endq rfl ?_
  show exSs prg (callF prg defs 118) mk b94 [.val A.d, .val B.d, .val (.int k), .val (.int s), .un, .un, .un, .un, .un, .un] st = _
  simp only [b94]
  rw [exSs_nx (ρ1 := [.val A.d, .val B.d, .val (.int k), .val (.int s), .val J.d, .un, .un, .un, .un, .un]) (S1 := st) (by simp [exS, evE, evEs, getV, putV, cof])]
  rw [exSs_nx (ite_no (or2 (by simp [evT, evE, evEs, getV, cmpD, lck, es]) (by simp [evT, evE, evEs, getV, cmpD, isD, ck])))]
  rw [exSs_nx (ρ1 := [.val A.d, .val B.d, .val (.int k), .val (.int s), .val J.d, .un, .val (.int J.sz), .val (.int J.ht), .un, .un]) (S1 := st) (by simp [exS, evE, evEs, getV, putV, putVs, t6, t3])]
  have ng : exS prg (callF prg defs 118) mk (.ite (.or (.cons (.cmp .ne (.call 42 (.cons (.var 4) .nil)) (.var 6)) (.cons (.cmp .ne (.call 43 (.cons (.var 4) .nil)) (.var 7)) (.cons (.cmp .ne (.call 37 (.cons (.var 4) .nil)) (.call 56 (.cons (.var 4) .nil))) .nil)))) (.cons (.ret (.bl false)) .nil) .nil) [.val A.d, .val B.d, .val (.int k), .val (.int s), .val J.d, .un, .val (.int J.sz), .val (.int J.ht), .un, .un] st = some (.nx [.val A.d, .val B.d, .val (.int k), .val (.int s), .val J.d, .un, .val (.int J.sz), .val (.int J.ht), .un, .un] st) := by
    generalize J.ul.map lbD = Z at l3 l4 lr
    exact ite_no (or3 (by simp [evT, evE, evEs, getV, cmpD, t5, eq_int]) (by simp [evT, evE, evEs, getV, cmpD, t4, eq_int]) (by simp [evT, evE, evEs, getV, cmpD, l3, l4, lr]))
  rw [exSs_nx ng]
  rw [exSs_nx (ite_no (or2 (by
    simp [evT, evE, evEs, getV, cmpD, biD, max2D, hA', hB']
    split <;> omega) (by
    have q : J.ht = 1 ∨ J.ht = 2 ∨ J.ht = 3 ∨ J.ht = 4 ∨ J.ht = 5 := by have := J.ht_pos; omega
    rcases q with q | q | q | q | q <;> rw [q] at z4 ⊢ <;> simp [evT, evE, evEs, getV, cmpD, binD] <;> omega)))]
  rw [exSs_nx (ρ1 := [.val A.d, .val B.d, .val (.int k), .val (.int s), .val J.d, .val (.int 1), .val (.int J.sz), .val (.int J.ht), .val (.bl (Ty.sf true A B)), .val (lbD (k, s))]) (S1 := st) (by
    have ev : evI prg (callF prg defs 118) mk (.e (.frz (.disp (.cons (.int 0) (.cons (.int 1) .nil))))) [.val A.d, .val B.d, .val (.int k), .val (.int s), .val J.d, .un, .val (.int J.sz), .val (.int J.ht), .un, .un] st = some (([.int 0, .int 1], none), st) := by
      simp [evI, evE, evEs, evL, szOk, itemsD]
    show exS prg _ _ (.forS [5] true _ hb) _ _ = _
    simp only [exS, ev, Option.bind_some, forD, e0, e1])]
  simp [exSs, exS, evE]
def lb : Ss := match b95.drop 5 with
  | .cons (.forS _ _ _ b) _ => b
  | _ => .nil
theorem lturn {mk : CallF} {s0 s1 s2 s3 s6 : Slot} {k s : Int} {A B : Ty} {st : Store} (h : callF prg defs 119 94 [A.d, B.d, .int k, .int s] st = some (.bl true, st)) :
    turnF true [6] none (exSs prg (callF prg defs 119) mk lb) (.tup [A.d, B.d]) [s0, s1, s2, s3, .val (.int k), .val (.int s), s6] st = some (.nx [s0, s1, s2, s3, .val (.int k), .val (.int s), .val (.tup [A.d, B.d])] st) := by
  generalize A.d = X at *
  generalize B.d = Y at *
  have body : exSs prg (callF prg defs 119) mk lb [s0, s1, s2, s3, .val (.int k), .val (.int s), .val (.tup [X, Y])] st = some (.nx [s0, s1, s2, s3, .val (.int k), .val (.int s), .val (.tup [X, Y])] st) := by
    simp only [lb, b95, Ss.drop]
    rw [exSs_nx (ite_no (by simp [evT, evE, evEs, getV, idx_tup, at0, at1, h, truD]))]
    rfl
  simp [turnF, putT, putV, body, kept_none]
theorem law_run : ∀ ns : List Int, ns.length ≤ 63 → ∃ S, callF prg defs (lev + 1) lawN [.scr (ns.map D.int)] [] = some (.bl true, S) := fun ns hl => by
  obtain ⟨S0, g0, e0⟩ := state_ok (P := prg) (defs := defs) (n := 118) rfl hl
  obtain ⟨r, S1, g1, r0, r9, e1⟩ := take_ok (P := prg) (defs := defs) (n := 118) rfl g0 (most := 4) (by decide) (by decide)
  obtain ⟨A, S2, g2, hA, e2⟩ := type29_ok (P := prg) (defs := defs) rfl rfl 4 (1 + r) (n := 119) g1 (by omega) (by decide)
  obtain ⟨B, S3, g3, hB, hf, e3⟩ := partner_ok (P := prg) (defs := defs) rfl rfl rfl 2 A 2 (n := 119) g2 (by decide) (by omega)
  obtain ⟨k, S4, g4, k0, k9, e4⟩ := take_ok (P := prg) (defs := defs) (n := 118) rfl g3 (most := 1000000) (by decide) (by decide)
  obtain ⟨s, S5, g5, s0, s9, e5⟩ := take_ok (P := prg) (defs := defs) (n := 118) rfl g4 (most := 2) (by decide) (by decide)
  have s01 : s = 0 ∨ s = 1 := by omega
  have fa : ∀ a : Ty, Ty.fits .any a = true := fun a => by cases a <;> rfl
  have fb : ∀ a : Ty, a.fits .any = true := fun a => by cases a <;> rfl
  have fs : ∀ a : Ty, a.fits a = true := fun a => by induction a <;> simp_all [Ty.fits]
  have ha : Ty.h .any = 1 := rfl
  let x0 : Slot := .val (.scr (ns.map D.int))
  let mk : CallF := (callP prg defs 119).2
  have p1 := fun s6 => lturn (mk := mk) (s0 := x0) (s1 := .val (.ref 1)) (s2 := .val A.d) (s3 := .val B.d) (s6 := s6) (holds_ok hf (by omega) (by omega) k0 k9 s01 S5)
  have p2 := fun s6 => lturn (mk := mk) (s0 := x0) (s1 := .val (.ref 1)) (s2 := .val A.d) (s3 := .val B.d) (s6 := s6) (holds_ok (A := B) (B := A) (by rw [Ty.fits_comm]; exact hf) (by omega) (by omega) k0 k9 s01 S5)
  have p3 := fun s6 => lturn (mk := mk) (s0 := x0) (s1 := .val (.ref 1)) (s2 := .val A.d) (s3 := .val B.d) (s6 := s6) (holds_ok (fs A) (by omega) (by omega) k0 k9 s01 S5)
  have p4 := fun s6 => lturn (mk := mk) (s0 := x0) (s1 := .val (.ref 1)) (s2 := .val A.d) (s3 := .val B.d) (s6 := s6) (holds_ok (fb A) (by omega) (by omega) k0 k9 s01 S5)
  have p5 := fun s6 => lturn (mk := mk) (s0 := x0) (s1 := .val (.ref 1)) (s2 := .val A.d) (s3 := .val B.d) (s6 := s6) (holds_ok (fa B) (by omega) (by omega) k0 k9 s01 S5)
  refine law_of (n := 119) (k := 1) (f := lawN) (fd := fd95) (ρ1 := [x0, .val (.ref 1), .un, .un, .un, .un, .un]) (S1 := S0) (S2 := S5) rfl rfl ?_ ?_
  · show exSs prg (callF prg defs 119) _ (b95.take 1) (startD 7 [.scr (ns.map D.int)]) [] = _
    simp [b95, Ss.take, exSs, exS, startD, evE, evEs, getV, putV, e0, x0]
  · show exSs prg (callF prg defs 119) mk (b95.drop 1) _ _ = _
    simp only [b95, Ss.drop]
    have b1 : binD .add (.int 1) (.int r) = some (.int (1 + r)) := rfl
    have b2 : binD .pow (.int 10) (.int 6) = some (.int 1000000) := rfl
    rw [exSs_nx (ρ1 := [x0, .val (.ref 1), .val A.d, .un, .un, .un, .un]) (S1 := S2) (by simp [exS, evE, evEs, getV, putV, e1, b1, e2])]
    rw [exSs_nx (ρ1 := [x0, .val (.ref 1), .val A.d, .val B.d, .un, .un, .un]) (S1 := S3) (by simp [exS, evE, evEs, getV, putV, e3])]
    rw [exSs_nx (ρ1 := [x0, .val (.ref 1), .val A.d, .val B.d, .val (.int k), .un, .un]) (S1 := S4) (by simp [exS, evE, evEs, getV, putV, b2, e4])]
    rw [exSs_nx (ρ1 := [x0, .val (.ref 1), .val A.d, .val B.d, .val (.int k), .val (.int s), .un]) (S1 := S5) (by simp [exS, evE, evEs, getV, putV, e5])]
    rw [exSs_nx (ρ1 := [x0, .val (.ref 1), .val A.d, .val B.d, .val (.int k), .val (.int s), .val (.tup [Ty.any.d, B.d])]) (S1 := S5) (by
      have ev : evI prg (callF prg defs 119) mk (.e (.frz (.disp (.cons (.tup (.cons (.var 2) (.cons (.var 3) .nil))) (.cons (.tup (.cons (.var 3) (.cons (.var 2) .nil))) (.cons (.tup (.cons (.var 2) (.cons (.var 2) .nil))) (.cons (.tup (.cons (.var 2) (.cons (.tup (.cons (.str "any") .nil)) .nil))) (.cons (.tup (.cons (.tup (.cons (.str "any") .nil)) (.cons (.var 3) .nil))) .nil)))))))) [x0, .val (.ref 1), .val A.d, .val B.d, .val (.int k), .val (.int s), .un] S5 = some (([.tup [A.d, B.d], .tup [B.d, A.d], .tup [A.d, A.d], .tup [A.d, Ty.any.d], .tup [Ty.any.d, B.d]], none), S5) := by
        simp [evI, evE, evEs, evL, getV, szOk, itemsD, Ty.d]
      show exS prg _ _ (.forS [6] true _ lb) _ _ = _
      simp only [exS, ev, Option.bind_some, forD, p1, p2, p3, p4, p5])]
    simp [exSs, exS, evE]
end

end K22
open PySem PySem.W PyProof.Rows
set_option maxRecDepth 100000 in
set_option maxHeartbeats 0 in
theorem PySem.Challenge.cw_halfnoted_k22_checks_of_casts_holds : PySem.Challenge.rw_halfnoted_k22_checks_of_casts.Holds := by
  w_on; o_law; k_head; (case hw => w_witness2)
  k_fill
  refine K22.walk (n := K22.lev) (by exact ⟨rfl, by decide, by decide⟩) K22.law_run (l := PySem.Challenge.rw_halfnoted_k22_checks_of_casts) rfl rfl rfl (fun w h Y => PySem.W.kIn_of Y) fun w => ?_
  refine HN.says_of ?_
  kernel_rfl
