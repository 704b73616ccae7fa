import PyProof.Rows.All
import Wide.All
import OpenK.AllK
import Wide.FinOn
import HandS.ForMost
import HandS.TupAny
import HandS.Deep
import HandS.Style
import HandS.Rev
import HandS.Zip
import HandS.IsInst
import HandS.Conv
import PyProof.Rows.NestShow
import KE.DataMinMax
import HandS.SortKw
import HandS.Ends
import HandS.Defaults
import HandS.TryOnly
import HandS.Codes
import HandS.More
import HandS.HeadEnd
import HandS.Head0
import HandS.Head1
import HandS.Head2
import HandS.HeadHook1
import HandS.HeadHook2
import HandS.HeadHook3
import KE.KStateDown
import PyProof.ReprLen
import PyProof.ReprText
import PySem.Challenge.RW_halfnoted_k21_less_exact_programs
set_option Elab.async false
set_option linter.all false
set_option maxRecDepth 100000
/-! A small language for the part of Python that these programs use: data D (tuples and finished lists are values), a store of lists and instances that change, expressions and statements, and what they do. -/
namespace HN
open PySem L2

inductive D where
  | non | bl (b : Bool) | int (i : Int) | str (s : Str)
  | tup (l : List D) | lst (l : List D) | scr (l : List D) | obj (c : Nat) (l : List D) | ref (a : Nat) | dic

/-- what stands in the store -/
inductive SO where
  | lst (l : List D) | ins (c : Nat) (l : List D)
abbrev Store := List SO
/-- a local name: not bound, a value, or a list that nothing else knows -/
inductive Slot where
  | un | val (d : D) | own (l : List D)
abbrev Env := List Slot

/-! ### equality of data -/
mutual
def D.eqv : D → D → Bool
  | .non, .non => true
  | .bl a, .bl b => a == b
  | .bl a, .int j => (if a then 1 else 0) == j
  | .int i, .bl b => i == (if b then 1 else 0)
  | .int i, .int j => i == j
  | .str x, .str y => x == y
  | .tup xs, .tup ys => D.eqvL xs ys
  | .lst xs, .lst ys => D.eqvL xs ys
  | _, _ => false
def D.eqvL : List D → List D → Bool
  | [], [] => true
  | x :: xs, y :: ys => D.eqv x y && D.eqvL xs ys
  | _, _ => false
end
mutual
/-- data alone: no reference in it -/
def D.data : D → Bool
  | .non => true | .bl _ => true | .int _ => true | .str _ => true
  | .tup xs => D.dataL xs
  | .lst xs => D.dataL xs
  | .scr _ => false | .obj _ _ => false | .ref _ => false | .dic => false
def D.dataL : List D → Bool
  | [] => true
  | x :: xs => D.data x && D.dataL xs
end
mutual
def D.dep : D → Nat
  | .tup xs => D.depL xs + 1
  | .lst xs => D.depL xs + 1
  | _ => 0
def D.depL : List D → Nat
  | [] => 0
  | x :: xs => max (D.dep x) (D.depL xs)
end
def eqD (a b : D) : Option Bool := if D.data a && D.data b && decide (min (D.dep a) (D.dep b) ≤ 64) then some (D.eqv a b) else none
def inD (x : D) (l : List D) : Option Bool := if D.data x && D.dataL l && decide (min (D.depL l) (D.dep x) ≤ 64) then some (l.any fun y => D.eqv y x) else none

def truD (S : Store) : D → Option Bool
  | .non => some false
  | .bl b => some b
  | .int i => some (i != 0)
  | .str s => some (s.length != 0)
  | .tup l => some (!l.isEmpty)
  | .lst l => some (!l.isEmpty)
  | .ref a => match S[a]? with
    | some (.lst l) => some (!l.isEmpty)
    | _ => none
  | _ => none

/-! ### operators -/
inductive BOp | add | sub | mul | fdiv | mod | pow | shl
inductive COp | eq | ne | lt | le | gt | ge | is | isNot | isIn | notIn
def szOk (n : Nat) : Bool := decide (n ≤ 16777216)
def binD : BOp → D → D → Option D
  | .add, .int i, .int j => some (.int (i + j))
  | .add, .str i, .str j => if szOk (i.length + j.length) then some (.str (i ++ j)) else none
  | .add, .tup a, .tup b => if szOk (a.length + b.length) then some (.tup (a ++ b)) else none
  | .add, .lst a, .lst b => if szOk (a.length + b.length) then some (.lst (a ++ b)) else none
  | .sub, .int i, .int j => some (.int (i - j))
  | .mul, .int i, .int j => if (decide (-(2 ^ 64) < i) && decide (i < 2 ^ 64)) || (decide (-(2 ^ 64) < j) && decide (j < 2 ^ 64)) then some (.int (i * j)) else none
  | .fdiv, .int i, .int j => if decide (0 < j) && decide (j < 1073741824) then some (.int (i / j)) else none
  | .mod, .int i, .int j => if decide (0 < j) then some (.int (i % j)) else none
  | .pow, .int i, .int j => if decide (0 ≤ j) && decide (j ≤ 1000000) && decide (i.natAbs < 2 ^ 64) then some (.int (i ^ j.toNat)) else none
  | .shl, .int i, .int j => if decide (0 ≤ j) && decide (j ≤ 1000000) && decide (i.natAbs < 2 ^ 64) then some (.int (i * 2 ^ j.toNat)) else none
  | _, _, _ => none
def isNon : D → Bool
  | .non => true
  | _ => false
def isD : D → D → Option Bool
  | x, .non => some (isNon x)
  | .bl a, .bl b => some (a == b)
  | _, _ => none
def cmpD : COp → D → D → Option Bool
  | .eq, a, b => eqD a b
  | .ne, a, b => (eqD a b).map (!·)
  | .lt, .int i, .int j => some (decide (i < j))
  | .le, .int i, .int j => some (decide (i ≤ j))
  | .gt, .int i, .int j => some (decide (j < i))
  | .ge, .int i, .int j => some (decide (j ≤ i))
  | .is, a, b => isD a b
  | .isNot, a, b => (isD a b).map (!·)
  | .isIn, x, .tup l => inD x l
  | .isIn, x, .lst l => inD x l
  | .notIn, x, .tup l => (inD x l).map (!·)
  | .notIn, x, .lst l => (inD x l).map (!·)
  | _, _, _ => none

/-- a cut -/
def cutD {α : Type} (xs : List α) (lo hi : Option Int) : List α := (xs.drop (HT.sIx xs.length 0 lo)).take (HT.sIx xs.length xs.length hi - HT.sIx xs.length 0 lo)
def idxD (S : Store) : D → D → Option D
  | .tup l, .int i => atI l i
  | .lst l, .int i => atI l i
  | .str z, .int i => (atI z.cps.toList i).map fun c => .str ⟨#[c]⟩
  | .ref a, .int i => match S[a]? with
    | some (.lst l) => atI l i
    | _ => none
  | _, _ => none
def sliceD : D → Option Int → Option Int → Option D
  | .tup l, lo, hi => some (.tup (cutD l lo hi))
  | .lst l, lo, hi => some (.lst (cutD l lo hi))
  | .scr l, lo, hi => some (.lst (cutD l lo hi))
  | .str z, lo, hi => some (.str (cutS z lo hi))
  | _, _, _ => none

/-! ### built-in functions -/
inductive Bi | len | abs | int | str | repr | max1 | max0 | max2 | sum | tuple | list | all | isTuple | isStr | isInt | isBool | isList
def intsD : List D → Option (List Int)
  | [] => some []
  | .int i :: r => (intsD r).map (i :: ·)
  | _ => none
def boolsD : List D → Option (List Bool)
  | [] => some []
  | .bl i :: r => (boolsD r).map (i :: ·)
  | _ => none
def maxI : List Int → Int
  | [] => 0
  | a :: r => r.foldl max a
def tyD (S : Store) : D → Option String
  | .non => some "NoneType"
  | .bl _ => some "bool"
  | .int _ => some "int"
  | .str _ => some "str"
  | .tup _ => some "tuple"
  | .lst _ => some "list"
  | .ref a => match S[a]? with
    | some (.lst _) => some "list"
    | _ => none
  | _ => none
def one1 (f : D → Option D) : List D → Option D
  | [x] => f x
  | _ => none
def lenD (S : Store) : D → Option D
  | .tup l => some (.int l.length)
  | .lst l => some (.int l.length)
  | .scr l => some (.int l.length)
  | .str z => some (.int z.length)
  | .ref a => match S[a]? with
    | some (.lst l) => some (.int l.length)
    | _ => none
  | _ => none
def absD : D → Option D
  | .int i => some (.int (if i < 0 then -i else i))
  | _ => none
def intD : D → Option D
  | .int i => some (.int i)
  | .bl b => some (.int (if b then 1 else 0))
  | _ => none
def strD : D → Option D
  | .int i => if decide (i.natAbs.log2 < 1920) && PyData.strOk (toString i) && szOk (Str.ofString (toString i)).length then some (.str (toString i)) else none
  | _ => none
def maxD : D → Option D
  | .lst l => (intsD l).bind fun ns => if ns.isEmpty then none else some (.int (maxI ns))
  | _ => none
def max2D : List D → Option D
  | [x, y] => match x, y with
    | .int i, .int j => some (.int (if j > i then j else i))
    | _, _ => none
  | _ => none
def sumD : D → Option D
  | .lst l => (intsD l).map fun ns => .int ns.sum
  | _ => none
def tupleD (S : Store) : D → Option D
  | .lst l => some (.tup l)
  | .tup l => some (.tup l)
  | .ref a => match S[a]? with
    | some (.lst l) => some (.tup l)
    | _ => none
  | _ => none
def listD : D → Option D
  | .lst l => some (.lst l)
  | .tup l => some (.lst l)
  | .dic => some (.lst [])
  | _ => none
def allD : D → Option D
  | .lst l => (boolsD l).map fun bs => .bl (bs.all id)
  | _ => none
def isT (T : String) : String → Bool := fun t => if T = "int" then t == "int" || t == "bool" else t == T
def isTD (S : Store) (T : String) : D → Option D := fun d => (tyD S d).map fun t => .bl (isT T t)
def max0D : D → Option D
  | .lst l => (intsD l).map fun ns => .int (if ns.isEmpty then 0 else maxI ns)
  | _ => none
mutual
/-- data as the kit's -/
def toPy : D → PyData
  | .non => .none | .bl b => .bool b | .int i => .int i | .str s => .str s
  | .tup l => .tuple (toPyL l) | .lst l => .list (toPyL l)
  | .scr _ => .none | .obj _ _ => .none | .ref _ => .none | .dic => .none
def toPyL : List D → List PyData
  | [] => []
  | d :: ds => toPy d :: toPyL ds
end
def reprD (d : D) : Option D := if D.data d && (decide (D.dep d ≠ 0) && (decide (D.dep d ≤ 60) && ((toPy d).showable && (szOk (toPy d).shown.length && PyData.strOk (toPy d).shown)))) then some (.str (toPy d).shown) else none
def biD (S : Store) : Bi → List D → Option D
  | .len => one1 (lenD S)
  | .abs => one1 absD
  | .int => one1 intD
  | .str => one1 strD
  | .repr => one1 reprD
  | .max1 => one1 maxD
  | .max0 => one1 max0D
  | .max2 => max2D
  | .sum => one1 sumD
  | .tuple => one1 (tupleD S)
  | .list => one1 listD
  | .all => one1 allD
  | .isTuple => one1 (isTD S "tuple")
  | .isStr => one1 (isTD S "str")
  | .isInt => one1 (isTD S "int")
  | .isBool => one1 (isTD S "bool")
  | .isList => one1 (isTD S "list")

/-! ### the language -/
mutual
inductive E where
  | var (i : Nat) | int (i : Int) | str (s : Str) | bl (b : Bool) | non | glob (g : Nat) | absent
  | bin (op : BOp) (a b : E) | neg (a : E)
  | cmp (op : COp) (a b : E) | chain (op op' : COp) (a b c : E)
  | and (es : Es) | or (es : Es) | not (a : E) | ite (c a b : E)
  | call (f : Nat) (es : Es) | callK (f : Nat) (es ks : Es)
  | idx (a b : E) | slice (a lo hi : E) | rev (a : E)
  | tup (es : Es) | frz (l : Lx) | shr (l : Lx)
  | bi (f : Bi) (es : Es) | isi (f : Bi) (a : E)
  | lenOwn (i : Nat) | idxOwn (i : Nat) (b : E) | truOwn (i : Nat)
  | meth (c f : Nat) (o : E) (es : Es) | make (c : Nat) (es : Es) | record (c : Nat) (fz : Bool) (es : Es) | fld (c j : Nat) (o : E)
  | app (o a : E) | pop (o : E) | gdict (g : Nat) (a : E) | dict0
inductive Es where
  | nil | cons (e : E) (es : Es)
inductive Lx where
  | disp (es : Es) | comp (tg : List Nat) (one : Bool) (it : It) (ifs : Es) (elt : E)
inductive It where
  | e (e : E) | range1 (a : E) | range2 (a b : E) | rev (a : E) | zip (a b : E)
end
mutual
inductive St where
  | expr (e : E) | set (i : Nat) (e : E) | setOwn (i : Nat) (l : Lx) | setT (is : List Nat) (e : E) | setL (is : List Nat) (e : E) | par (is : List Nat) (es : Es)
  | aug (i : Nat) (op : BOp) (e : E) | setF (c j : Nat) (o e : E) | augF (c j : Nat) (op : BOp) (o e : E) | setIx (o i e : E)
  | setIxOwn (v : Nat) (i e : E) | appOwn (v : Nat) (e : E) | extOwn (v : Nat) (e : E) | popOwn (i v : Nat)
  | ite (c : E) (a b : Ss) | forS (tg : List Nat) (one : Bool) (it : It) (body : Ss) | while (c : E) (body : Ss)
  | ret (e : E) | retN | share (i : Nat) | freeze (i : Nat) | pass | dset
inductive Ss where
  | nil | cons (s : St) (ss : Ss)
end

/-- what a call does -/
abbrev CallF := Nat → List D → Store → Option (D × Store)
structure Prg where
  glob : Nat → Option D
  gdict : Nat → List (Str × D)
  init : Nat → Option Nat
  size : Nat → Nat

inductive Fl where
  | nx (ρ : Env) (S : Store) | rt (d : D) (S : Store)

def getV (ρ : Env) (i : Nat) : Option D := match ρ[i]? with
  | some (.val d) => some d
  | _ => none
def getO (ρ : Env) (i : Nat) : Option (List D) := match ρ[i]? with
  | some (.own l) => some l
  | _ => none
/-- a name is stored -/
def putV (ρ : Env) (i : Nat) (d : D) : Env := ρ.set i (.val d)
def putVs : Env → List Nat → List D → Option Env
  | ρ, [], [] => some ρ
  | ρ, i :: is, d :: ds => putVs (putV ρ i d) is ds
  | _, _, _ => none
def wipeE (ρ : Env) : List Nat → Env
  | [] => ρ
  | v :: vs => (wipeE ρ vs).set v .un
/-- the target of a loop -/
def putT (ρ : Env) (one : Bool) (is : List Nat) (d : D) : Option Env :=
  match one, is, d with
  | true, [i], d => some (putV ρ i d)
  | false, is, .tup ds => putVs ρ is ds
  | _, _, _ => none
/-- a cut's part: left out, or an int -/
def partD : Bool → D → Option (Option Int)
  | true, _ => some none
  | false, .int i => some (some i)
  | _, _ => none
def isAbs : E → Bool
  | .absent => true
  | _ => false
/-- the turns of a comprehension -/
def compD (T : D → Store → Option (Option D × Store)) : List D → Store → Option (List D × Store)
  | [], S => some ([], S)
  | x :: xs, S => (T x S).bind fun r => match r with
    | (some d, S1) => (compD T xs S1).map fun q => (d :: q.1, q.2)
    | (none, S1) => compD T xs S1
def forD (T : D → Env → Store → Option Fl) : List D → Env → Store → Option Fl
  | [], ρ, S => some (.nx ρ S)
  | x :: xs, ρ, S => (T x ρ S).bind fun r => match r with
    | .nx ρ1 S1 => forD T xs ρ1 S1
    | .rt d S1 => some (.rt d S1)

/-! a loop without a bound: the turn gives the next state, or the end -/
def runN {α β : Type} (T : α → Option (Sum α β)) : Nat → α → Option β
  | 0, _ => none
  | k + 1, a => (T a).bind fun r => match r with
    | .inl a' => runN T k a'
    | .inr b => some b
theorem runN_mono {α β : Type} {T : α → Option (Sum α β)} : ∀ {k : Nat} {a : α} {b : β}, runN T k a = some b → runN T (k + 1) a = some b
  | 0, _, _, h => by cases h
  | k + 1, a, b, h => by
    have h' : ((T a).bind fun r => match r with | .inl a' => runN T k a' | .inr b => some b) = some b := h
    show ((T a).bind fun r => match r with | .inl a' => runN T (k + 1) a' | .inr b => some b) = some b
    cases q : T a with
    | none => rw [q] at h'; cases h'
    | some r =>
      rw [q] at h'
      cases r with
      | inl a' => exact runN_mono (show runN T k a' = some b from h')
      | inr c => exact h'
theorem runN_le {α β : Type} {T : α → Option (Sum α β)} {k m : Nat} {a : α} {b : β} (h : runN T k a = some b) (hm : k ≤ m) : runN T m a = some b := by
  obtain ⟨d, rfl⟩ := Nat.exists_eq_add_of_le hm
  induction d with
  | zero => exact h
  | succ d ih => exact runN_mono (ih (Nat.le_add_right _ _))
open Classical in
noncomputable def whileD {α β : Type} (T : α → Option (Sum α β)) (a : α) : Option β := if h : ∃ b k, runN T k a = some b then some h.choose else none
theorem whileD_of {α β : Type} {T : α → Option (Sum α β)} {a : α} {b : β} {k : Nat} (h : runN T k a = some b) : whileD T a = some b := by
  have e : ∃ b k, runN T k a = some b := ⟨b, k, h⟩
  unfold whileD
  rw [dif_pos e]
  obtain ⟨k', h'⟩ := e.choose_spec
  have h1 := runN_le h (Nat.le_max_left k k')
  have h2 := runN_le h' (Nat.le_max_right k k')
  rw [h1] at h2
  exact h2.symm
theorem whileD_some {α β : Type} {T : α → Option (Sum α β)} {a : α} {b : β} (h : whileD T a = some b) : ∃ k, runN T k a = some b := by
  unfold whileD at h
  split at h
  · rename_i e
    cases h
    exact e.choose_spec
  · cases h
theorem whileD_eq {α β : Type} (T : α → Option (Sum α β)) (a : α) : whileD T a = (T a).bind fun r => match r with | .inl a' => whileD T a' | .inr b => some b := by
  cases q : T a with
  | none =>
    cases w : whileD T a with
    | none => rfl
    | some b =>
      obtain ⟨k, h⟩ := whileD_some w
      cases k with
      | zero => cases h
      | succ k =>
        have h' : ((T a).bind fun r => match r with | .inl a' => runN T k a' | .inr b => some b) = some b := h
        rw [q] at h'
        cases h'
  | some r =>
    cases r with
    | inr b =>
      refine whileD_of (k := 1) ?_
      show ((T a).bind fun r => match r with | .inl a' => runN T 0 a' | .inr b => some b) = some b
      rw [q]
      rfl
    | inl a' =>
      show whileD T a = whileD T a'
      cases w : whileD T a' with
      | some b =>
        obtain ⟨k, h⟩ := whileD_some w
        refine whileD_of (k := k + 1) ?_
        show ((T a).bind fun r => match r with | .inl a' => runN T k a' | .inr b => some b) = some b
        rw [q]
        exact h
      | none =>
        cases w2 : whileD T a with
        | none => rfl
        | some b =>
          obtain ⟨k, h⟩ := whileD_some w2
          cases k with
          | zero => cases h
          | succ k =>
            have h' : ((T a).bind fun r => match r with | .inl a' => runN T k a' | .inr b => some b) = some b := h
            rw [q] at h'
            rw [whileD_of (show runN T k a' = some b from h')] at w
            cases w

/-- the items that are walked, and the list of the store that must stay as it is -/
def itemsD (S : Store) : D → Option (List D × Option (Nat × List D))
  | .tup l => some (l, none)
  | .lst l => some (l, none)
  | .ref a => match S[a]? with
    | some (.lst l) => some (l, some (a, l))
    | _ => none
  | _ => none
/-- the walked list stands as it stood -/
def keptP (src : Option (Nat × List D)) (S : Store) : Prop := match src with
  | none => True
  | some q => S[q.1]? = some (.lst q.2)
open Classical in
noncomputable def keptD (src : Option (Nat × List D)) (S : Store) : Bool := decide (keptP src S)
def rangeL (a b : Int) : List D := (List.range (b - a).toNat).map fun i => D.int (a + (i : Nat))
def rgOk (a b : Int) : Bool := decide (-(2 ^ 62) ≤ a) && decide (a < 2 ^ 62) && decide (-(2 ^ 62) ≤ b) && decide (b < 2 ^ 62)
def zipL : List D → List D → List D
  | x :: xs, y :: ys => .tup [x, y] :: zipL xs ys
  | _, _ => []
def insAt (S : Store) (c : Nat) : D → Option (List D)
  | .ref a => match S[a]? with
    | some (.ins c' l) => if c' = c then some l else none
    | _ => none
  | .obj c' l => if c' = c then some l else none
  | _ => none
def lstAt (S : Store) : D → Option (Nat × List D)
  | .ref a => match S[a]? with
    | some (.lst l) => some (a, l)
    | _ => none
  | _ => none
/-- the j-th field stored -/
def putA (l : List D) (j : Nat) (d : D) : Option (List D) := if j < l.length then some (l.set j d) else if j = l.length then some (l ++ [d]) else none

/-- one turn of a comprehension -/
noncomputable def turnC (one : Bool) (tg : List Nat) (src : Option (Nat × List D)) (fi : Env → Store → Option (Bool × Store)) (fe : Env → Store → Option (D × Store)) (ρ : Env) : D → Store → Option (Option D × Store) := fun x S1 =>
  (putT (wipeE ρ tg) one tg x).bind fun ρ1 => (fi ρ1 S1).bind fun b => (if b.1 then (fe ρ1 b.2).map (fun y => ((some y.1, y.2) : Option D × Store)) else some (none, b.2)).bind fun r => if keptD src r.2 then some r else none
/-- one turn of a loop over what is walked -/
noncomputable def turnF (one : Bool) (tg : List Nat) (src : Option (Nat × List D)) (fb : Env → Store → Option Fl) : D → Env → Store → Option Fl := fun x ρ1 S1 => (putT ρ1 one tg x).bind fun ρ2 => (fb ρ2 S1).bind fun r => match r with
  | .nx ρ3 S3 => if keptD src S3 then some (.nx ρ3 S3) else none
  | .rt d S3 => some (.rt d S3)
def flS : Fl → Sum (Env × Store) Fl
  | .nx ρ1 S1 => .inl (ρ1, S1)
  | .rt d S1 => .inr (.rt d S1)
/-- one turn of a while -/
def turnW (fc : Env → Store → Option (Bool × Store)) (fb : Env → Store → Option Fl) : Env × Store → Option (Sum (Env × Store) Fl) := fun q => (fc q.1 q.2).bind fun x => if x.1 then (fb q.1 x.2).map flS else some (.inr (.nx q.1 x.2))
section
variable (P : Prg) (call mk : CallF)
mutual
noncomputable def evE : E → Env → Store → Option (D × Store)
  | .var i, ρ, S => (getV ρ i).map fun d => (d, S)
  | .int i, _, S => some (.int i, S)
  | .str s, _, S => some (.str s, S)
  | .bl b, _, S => some (.bl b, S)
  | .non, _, S => some (.non, S)
  | .glob g, _, S => (P.glob g).map fun d => (d, S)
  | .absent, _, S => some (.non, S)
  | .dict0, _, S => some (.dic, S)
  | .bin op a b, ρ, S => (evE a ρ S).bind fun x => (evE b ρ x.2).bind fun y => (binD op x.1 y.1).map fun d => (d, y.2)
  | .neg a, ρ, S => (evE a ρ S).bind fun x => match x with
    | (.int i, S1) => some (.int (-i), S1)
    | _ => none
  | .cmp op a b, ρ, S => (evE a ρ S).bind fun x => (evE b ρ x.2).bind fun y => (cmpD op x.1 y.1).map fun d => (.bl d, y.2)
  | .chain op op' a b c, ρ, S => (evE a ρ S).bind fun x => (evE b ρ x.2).bind fun y => (cmpD op x.1 y.1).bind fun k =>
    if k then (evE c ρ y.2).bind fun z => (cmpD op' y.1 z.1).map fun d => (.bl d, z.2) else some (.bl false, y.2)
  | .and es, ρ, S => evAnd es ρ S
  | .or es, ρ, S => evOr es ρ S
  | .not a, ρ, S => (evE a ρ S).bind fun x => match x with
    | (.bl b, S1) => some (.bl (!b), S1)
    | _ => none
  | .ite c a b, ρ, S => (evT c ρ S).bind fun x => if x.1 then evE a ρ x.2 else evE b ρ x.2
  | .call f es, ρ, S => (evEs es ρ S).bind fun x => call f x.1 x.2
  | .callK f es ks, ρ, S => (evEs es ρ S).bind fun x => (evEs ks ρ x.2).bind fun y => call f (x.1 ++ y.1) y.2
  | .idx a b, ρ, S => (evE a ρ S).bind fun x => (evE b ρ x.2).bind fun y => (idxD y.2 x.1 y.1).map fun d => (d, y.2)
  | .slice a lo hi, ρ, S => (evE a ρ S).bind fun x => (evE lo ρ x.2).bind fun y => (evE hi ρ y.2).bind fun z =>
    (partD (isAbs lo) y.1).bind fun l => (partD (isAbs hi) z.1).bind fun h => (sliceD x.1 l h).map fun d => (d, z.2)
  | .rev a, ρ, S => (evE a ρ S).bind fun x => match x with
    | (.lst l, S1) => some (.lst l.reverse, S1)
    | _ => none
  | .tup es, ρ, S => (evEs es ρ S).bind fun x => if szOk x.1.length then some (.tup x.1, x.2) else none
  | .frz l, ρ, S => (evL l ρ S).map fun x => (.lst x.1, x.2)
  | .shr l, ρ, S => (evL l ρ S).map fun x => (.ref x.2.length, x.2 ++ [.lst x.1])
  | .bi f es, ρ, S => (evEs es ρ S).bind fun x => (biD x.2 f x.1).map fun d => (d, x.2)
  | .isi f a, ρ, S => (evE a ρ S).bind fun x => (biD x.2 f [x.1]).map fun d => (d, x.2)
  | .lenOwn i, ρ, S => (getO ρ i).map fun l => (.int l.length, S)
  | .idxOwn i b, ρ, S => (evE b ρ S).bind fun y => (getO ρ i).bind fun l => match y.1 with
    | .int k => (atI l k).map fun d => (d, y.2)
    | _ => none
  | .truOwn _, _, _ => none
  | .meth c f o es, ρ, S => (evE o ρ S).bind fun x => (insAt x.2 c x.1).bind fun _ => (evEs es ρ x.2).bind fun y => call f (x.1 :: y.1) y.2
  | .make c es, ρ, S => (evEs es ρ S).bind fun x => (P.init c).bind fun f => (mk f (.ref x.2.length :: x.1) (x.2 ++ [.ins c []])).bind fun r => match r with
    | (.non, S2) => some (.ref x.2.length, S2)
    | _ => none
  | .record c fz es, ρ, S => (evEs es ρ S).bind fun x => if x.1.length = P.size c then (if fz then some (.obj c x.1, x.2) else some (.ref x.2.length, x.2 ++ [.ins c x.1])) else none
  | .fld c j o, ρ, S => (evE o ρ S).bind fun x => (insAt x.2 c x.1).bind fun l => (l[j]?).map fun d => (d, x.2)
  | .app o a, ρ, S => (evE o ρ S).bind fun x => (evE a ρ x.2).bind fun y => (lstAt y.2 x.1).bind fun q => if decide (q.2.length < 16777216) then some (.non, y.2.set q.1 (.lst (q.2 ++ [y.1]))) else none
  | .pop o, ρ, S => (evE o ρ S).bind fun x => (lstAt x.2 x.1).bind fun q => (q.2[q.2.length - 1]?).map fun d => (d, x.2.set q.1 (.lst q.2.dropLast))
  | .gdict g a, ρ, S => (evE a ρ S).bind fun x => match x with
    | (.str s, S1) => ((P.gdict g).lookup s).map fun d => (d, S1)
    | _ => none
/-- a test -/
noncomputable def evT : E → Env → Store → Option (Bool × Store)
  | .cmp op a b, ρ, S => (evE a ρ S).bind fun x => (evE b ρ x.2).bind fun y => (cmpD op x.1 y.1).map fun d => (d, y.2)
  | .and es, ρ, S => evAndT es ρ S
  | .or es, ρ, S => evOrT es ρ S
  | .not a, ρ, S => (evT a ρ S).map fun x => (!x.1, x.2)
  | .truOwn i, ρ, S => (getO ρ i).map fun l => (!l.isEmpty, S)
  | .chain op op' a b c, ρ, S => (evE a ρ S).bind fun x => (evE b ρ x.2).bind fun y => (cmpD op x.1 y.1).bind fun k =>
    if k then (evE c ρ y.2).bind fun z => (cmpD op' y.1 z.1).map fun d => (d, z.2) else some (false, y.2)
  | .var i, ρ, S => ((getV ρ i).map fun d => (d, S)).bind fun x => (truD x.2 x.1).map fun b => (b, x.2)
  | .call f es, ρ, S => ((evEs es ρ S).bind fun x => call f x.1 x.2).bind fun y => (truD y.2 y.1).map fun b => (b, y.2)
  | .callK f es ks, ρ, S => ((evEs es ρ S).bind fun x => (evEs ks ρ x.2).bind fun y => call f (x.1 ++ y.1) y.2).bind fun y => (truD y.2 y.1).map fun b => (b, y.2)
  | .idx a b, ρ, S => ((evE a ρ S).bind fun x => (evE b ρ x.2).bind fun y => (idxD y.2 x.1 y.1).map fun d => (d, y.2)).bind fun x => (truD x.2 x.1).map fun b => (b, x.2)
  | .fld c j o, ρ, S => ((evE o ρ S).bind fun x => (insAt x.2 c x.1).bind fun l => (l[j]?).map fun d => (d, x.2)).bind fun x => (truD x.2 x.1).map fun b => (b, x.2)
  | .bi f es, ρ, S => ((evEs es ρ S).bind fun x => (biD x.2 f x.1).map fun d => (d, x.2)).bind fun x => (truD x.2 x.1).map fun b => (b, x.2)
  | .meth c f o es, ρ, S => ((evE o ρ S).bind fun x => (insAt x.2 c x.1).bind fun _ => (evEs es ρ x.2).bind fun y => call f (x.1 :: y.1) y.2).bind fun z => (truD z.2 z.1).map fun b => (b, z.2)
  | .isi f a, ρ, S => ((evE a ρ S).bind fun x => (biD x.2 f [x.1]).map fun d => (d, x.2)).bind fun x => (truD x.2 x.1).map fun b => (b, x.2)
  | .bl b, _, S => some (b, S)
  | _, _, _ => none
noncomputable def evEs : Es → Env → Store → Option (List D × Store)
  | .nil, _, S => some ([], S)
  | .cons e es, ρ, S => (evE e ρ S).bind fun x => (evEs es ρ x.2).map fun y => (x.1 :: y.1, y.2)
noncomputable def evAnd : Es → Env → Store → Option (D × Store)
  | .nil, _, _ => none
  | .cons e .nil, ρ, S => evE e ρ S
  | .cons e es, ρ, S => (evE e ρ S).bind fun x => match x with
    | (.bl true, S1) => evAnd es ρ S1
    | (.bl false, S1) => some (.bl false, S1)
    | _ => none
noncomputable def evOr : Es → Env → Store → Option (D × Store)
  | .nil, _, _ => none
  | .cons e .nil, ρ, S => evE e ρ S
  | .cons e es, ρ, S => (evE e ρ S).bind fun x => match x with
    | (.bl false, S1) => evOr es ρ S1
    | (.bl true, S1) => some (.bl true, S1)
    | _ => none
noncomputable def evAndT : Es → Env → Store → Option (Bool × Store)
  | .nil, _, _ => none
  | .cons e .nil, ρ, S => evT e ρ S
  | .cons e es, ρ, S => (evT e ρ S).bind fun x => if x.1 then evAndT es ρ x.2 else some (false, x.2)
noncomputable def evOrT : Es → Env → Store → Option (Bool × Store)
  | .nil, _, _ => none
  | .cons e .nil, ρ, S => evT e ρ S
  | .cons e es, ρ, S => (evT e ρ S).bind fun x => if x.1 then some (true, x.2) else evOrT es ρ x.2
/-- a new list -/
noncomputable def evL : Lx → Env → Store → Option (List D × Store)
  | .disp es, ρ, S => (evEs es ρ S).bind fun x => if szOk x.1.length then some x else none
  | .comp tg one it ifs elt, ρ, S => (evI it ρ S).bind fun w => if decide (w.1.1.length ≤ 16777216) then compD (turnC one tg w.1.2 (evIfs ifs) (evE elt) ρ) w.1.1 w.2 else none
noncomputable def evIfs : Es → Env → Store → Option (Bool × Store)
  | .nil, _, S => some (true, S)
  | .cons c .nil, ρ, S => evT c ρ S
  | _, _, _ => none
/-- what is walked -/
noncomputable def evI : It → Env → Store → Option ((List D × Option (Nat × List D)) × Store)
  | .e e, ρ, S => (evE e ρ S).bind fun x => (itemsD x.2 x.1).map fun w => (w, x.2)
  | .range1 a, ρ, S => (evE a ρ S).bind fun x => match x with
    | (.int n, S1) => if rgOk 0 n then some ((rangeL 0 n, none), S1) else none
    | _ => none
  | .range2 a b, ρ, S => (evE a ρ S).bind fun x => (evE b ρ x.2).bind fun y => match x.1, y.1 with
    | .int i, .int j => if rgOk i j then some ((rangeL i j, none), y.2) else none
    | _, _ => none
  | .rev a, ρ, S => (evE a ρ S).bind fun x => match x.1 with
    | .lst l => some ((l.reverse, none), x.2)
    | .tup l => some ((l.reverse, none), x.2)
    | _ => none
  | .zip a b, ρ, S => (evE a ρ S).bind fun x => (evE b ρ x.2).bind fun y => match x.1, y.1 with
    | .lst l, .lst l' => if l.length = l'.length then some ((zipL l l', none), y.2) else none
    | .tup l, .tup l' => if l.length = l'.length then some ((zipL l l', none), y.2) else none
    | _, _ => none
end
end

/-! ### statements -/
def augD : BOp → D → D → Option D
  | .add, .int i, .int j => some (.int (i + j))
  | .sub, .int i, .int j => some (.int (i - j))
  | .add, .str i, .str j => if szOk (i.length + j.length) then some (.str (i ++ j)) else none
  | _, _, _ => none
section
variable (P : Prg) (call mk : CallF)
mutual
noncomputable def exS : St → Env → Store → Option Fl
  | .expr e, ρ, S => (evE P call mk e ρ S).map fun x => .nx ρ x.2
  | .set i e, ρ, S => (evE P call mk e ρ S).map fun x => .nx (putV ρ i x.1) x.2
  | .setOwn i l, ρ, S => (evL P call mk l ρ S).map fun x => .nx (ρ.set i (.own x.1)) x.2
  | .setT is e, ρ, S => (evE P call mk e ρ S).bind fun x => match x.1 with
    | .tup ds => (putVs ρ is ds).map fun ρ1 => .nx ρ1 x.2
    | _ => none
  | .setL is e, ρ, S => (evE P call mk e ρ S).bind fun x => match x.1 with
    | .lst ds => (putVs ρ is ds).map fun ρ1 => .nx ρ1 x.2
    | _ => none
  | .par is es, ρ, S => (evEs P call mk es ρ S).bind fun x => (putVs ρ is x.1).map fun ρ1 => .nx ρ1 x.2
  | .aug i op e, ρ, S => (getV ρ i).bind fun d => (evE P call mk e ρ S).bind fun x => (augD op d x.1).map fun r => .nx (putV ρ i r) x.2
  | .setF c j o e, ρ, S => (evE P call mk e ρ S).bind fun x => (evE P call mk o ρ x.2).bind fun y => match y.1 with
    | .ref a => (insAt y.2 c (.ref a)).bind fun l => (putA l j x.1).map fun l' => .nx ρ (y.2.set a (.ins c l'))
    | _ => none
  | .augF c j op o e, ρ, S => (evE P call mk o ρ S).bind fun y => match y.1 with
    | .ref a => (insAt y.2 c (.ref a)).bind fun l => (l[j]?).bind fun d => (evE P call mk e ρ y.2).bind fun x => (augD op d x.1).bind fun r =>
      (insAt x.2 c (.ref a)).bind fun l2 => (putA l2 j r).map fun l' => .nx ρ (x.2.set a (.ins c l'))
    | _ => none
  | .setIx o i e, ρ, S => (evE P call mk e ρ S).bind fun x => (evE P call mk o ρ x.2).bind fun y => (evE P call mk i ρ y.2).bind fun z => match z.1 with
    | .int k => (lstAt z.2 y.1).bind fun q => (ixN q.2.length k).map fun j => .nx ρ (z.2.set q.1 (.lst (q.2.set j x.1)))
    | _ => none
  | .setIxOwn v i e, ρ, S => (evE P call mk e ρ S).bind fun x => (evE P call mk i ρ x.2).bind fun z => (getO ρ v).bind fun l => match z.1 with
    | .int k => (ixN l.length k).map fun j => .nx (ρ.set v (.own (l.set j x.1))) z.2
    | _ => none
  | .appOwn v e, ρ, S => (evE P call mk e ρ S).bind fun x => (getO ρ v).bind fun l => if decide (l.length < 16777216) then some (.nx (ρ.set v (.own (l ++ [x.1]))) x.2) else none
  | .extOwn v e, ρ, S => (evE P call mk e ρ S).bind fun x => (getO ρ v).bind fun l => match x.1 with
    | .lst ds => if szOk (l.length + ds.length) then some (.nx (ρ.set v (.own (l ++ ds))) x.2) else none
    | _ => none
  | .popOwn i v, ρ, S => (getO ρ v).bind fun l => (l[l.length - 1]?).map fun d => .nx (putV (ρ.set v (.own l.dropLast)) i d) S
  | .ite c a b, ρ, S => (evT P call mk c ρ S).bind fun x => if x.1 then exSs a ρ x.2 else exSs b ρ x.2
  | .forS tg one it body, ρ, S => (evI P call mk it ρ S).bind fun w => forD (turnF one tg w.1.2 (exSs body)) w.1.1 ρ w.2
  | .while c body, ρ, S => whileD (turnW (evT P call mk c) (exSs body)) (ρ, S)
  | .ret e, ρ, S => (evE P call mk e ρ S).map fun x => .rt x.1 x.2
  | .retN, _, S => some (.rt .non S)
  | .share i, ρ, S => (getO ρ i).map fun l => .nx (putV ρ i (.ref S.length)) (S ++ [.lst l])
  | .freeze i, ρ, S => (getO ρ i).map fun l => .nx (putV ρ i (.lst l)) S
  | .pass, ρ, S => some (.nx ρ S)
  | .dset, _, _ => none
noncomputable def exSs : Ss → Env → Store → Option Fl
  | .nil, ρ, S => some (.nx ρ S)
  | .cons s ss, ρ, S => (exS s ρ S).bind fun r => match r with
    | .nx ρ1 S1 => exSs ss ρ1 S1
    | .rt d S1 => some (.rt d S1)
end
end

/-! ### functions -/
mutual
/-- no reference to the store behind n -/
def D.bdd (n : Nat) : D → Bool
  | .ref a => decide (a < n)
  | .tup l => D.bddL n l
  | .lst l => D.bddL n l
  | .scr l => D.bddL n l
  | .obj _ l => D.bddL n l
  | _ => true
def D.bddL (n : Nat) : List D → Bool
  | [] => true
  | x :: xs => D.bdd n x && D.bddL n xs
end
open Classical in
/-- behind a call: what it made and left behind, if nothing else has changed -/
noncomputable def gcD (S : Store) (r : D × Store) : D × Store := if r.2.take S.length = S ∧ D.bdd S.length r.1 = true then (r.1, S) else r
structure FD where
  params : Nat
  slots : Nat
  body : Ss
def startD (n : Nat) (ds : List D) : Env := ds.map Slot.val ++ List.replicate (n - ds.length) Slot.un
noncomputable def runD (P : Prg) (call mk : CallF) (f : FD) (ds : List D) (S : Store) : Option (D × Store) :=
  if ds.length = f.params then (exSs P call mk f.body (startD f.slots ds) S).map fun r => match r with
    | .nx _ S1 => gcD S (.non, S1)
    | .rt d S1 => gcD S (d, S1)
  else none
noncomputable def callP (P : Prg) (defs : Nat → Option FD) : Nat → CallF × CallF
  | 0 => (fun _ _ _ => none, fun _ _ _ => none)
  | n + 1 => (fun f ds S => (defs f).bind fun d => runD P (callP P defs n).1 (callP P defs n).2 d ds S, (callP P defs n).1)
noncomputable def callF (P : Prg) (defs : Nat → Option FD) (n : Nat) : CallF := (callP P defs n).1
example (P : Prg) (c m : CallF) (ρ : Env) (S : Store) : evE P c m (.bin .add (.int 1) (.int 3)) ρ S = some (.int 4, S) := rfl
example (P : Prg) (c m : CallF) (ρ : Env) (S : Store) : exS P c m (.ite (.bl true) (.cons (.ret (.int 3)) .nil) .nil) ρ S = some (.rt (.int 3) S) := rfl
end HN

/-! How data and the store of HN stand in the abstract heap of HandS. -/
namespace HN
open PySem L2

/-- the fixed surroundings: the written part, the classes' places, their attributes' names in order -/
structure Gx where
  K : PySem.W.Frag
  cA : Nat → Addr
  cN : Nat → List Str
/-- where things stand: F what is finished (tuples, finished lists and instances), m the places of the store's objects -/
structure Mp where
  F : Hp
  m : Nat → Addr

mutual
def Rp (G : Gx) (M : Mp) (n : Nat) : D → V → Prop
  | .non, v => v = .non
  | .bl b, v => v = .bl b
  | .int i, v => v = .int i
  | .str s, v => v = .str s ∧ PyData.strOk s = true ∧ s.length ≤ 16777216
  | .tup l, v => ∃ p vs, v = .ref p ∧ SqT G.K M.F p vs ∧ RpL G M n l vs
  | .lst l, v => ∃ p vs, v = .ref p ∧ M.F p = some (.lst vs) ∧ RpL G M n l vs
  | .scr l, v => ∃ p vs, v = .ref p ∧ SqL G.K M.F p vs ∧ RpL G M n l vs
  | .obj c l, v => ∃ p dx vs, v = .ref p ∧ M.F p = some (.ins (G.cA c) dx ((G.cN c).zip vs)) ∧ l.length = (G.cN c).length ∧ RpL G M n l vs
  | .ref a, v => a < n ∧ v = .ref (M.m a)
  | .dic, v => ∃ p, v = .ref p ∧ M.F p = some (.dT [])
def RpL (G : Gx) (M : Mp) (n : Nat) : List D → List V → Prop
  | [], vs => vs = []
  | d :: ds, vs => ∃ v r, vs = v :: r ∧ Rp G M n d v ∧ RpL G M n ds r
end

section
variable {G : Gx} {M M' : Mp} {n n' : Nat}
theorem RpL.nil : RpL G M n [] [] := rfl
theorem RpL.cons {d : D} {v : V} {ds : List D} {vs : List V} (h : Rp G M n d v) (t : RpL G M n ds vs) : RpL G M n (d :: ds) (v :: vs) := ⟨v, vs, rfl, h, t⟩
theorem RpL.length : ∀ {ds : List D} {vs : List V}, RpL G M n ds vs → ds.length = vs.length
  | [], vs, h => by
    have e : vs = [] := h
    rw [e] <;> rfl
  | d :: ds, vs, h => by
    obtain ⟨v, r, e, _, t⟩ := h
    rw [e, List.length_cons, List.length_cons, RpL.length t]
theorem RpL.get : ∀ {ds : List D} {vs : List V} {i : Nat} {d : D}, RpL G M n ds vs → ds[i]? = some d → ∃ v, vs[i]? = some v ∧ Rp G M n d v
  | [], _, _, _, _, e => by simp at e
  | d :: ds, vs, 0, x, h, e => by
    obtain ⟨v, r, ev, hv, t⟩ := h
    have ex : d = x := by simpa using e
    rw [← ex, ev]
    exact ⟨v, rfl, hv⟩
  | d :: ds, vs, i + 1, x, h, e => by
    obtain ⟨v, r, ev, hv, t⟩ := h
    obtain ⟨w, h1, h2⟩ := RpL.get (i := i) t (by simpa using e)
    rw [ev]
    exact ⟨w, by simpa using h1, h2⟩
theorem RpL.of_get : ∀ {ds : List D} {vs : List V}, ds.length = vs.length → (∀ (i : Nat) (d : D) (v : V), ds[i]? = some d → vs[i]? = some v → Rp G M n d v) → RpL G M n ds vs
  | [], [], _, _ => rfl
  | [], _ :: _, h, _ => by simp at h
  | _ :: _, [], h, _ => by simp at h
  | d :: ds, v :: vs, h, f => RpL.cons (f 0 d v rfl rfl) (RpL.of_get (by simpa using h) fun i d' v' e1 e2 => f (i + 1) d' v' (by simpa using e1) (by simpa using e2))
theorem RpL.back {ds : List D} {vs : List V} {i : Nat} {v : V} (h : RpL G M n ds vs) (e : vs[i]? = some v) : ∃ d, ds[i]? = some d ∧ Rp G M n d v := by
  have hi : i < ds.length := by
    rw [h.length]
    exact (List.getElem?_eq_some_iff.mp e).1
  obtain ⟨w, h1, h2⟩ := h.get (List.getElem?_eq_getElem hi)
  rw [e] at h1
  cases h1
  exact ⟨_, List.getElem?_eq_getElem hi, h2⟩
theorem RpL.append : ∀ {ds es : List D} {vs us : List V}, RpL G M n ds vs → RpL G M n es us → RpL G M n (ds ++ es) (vs ++ us)
  | [], _, vs, _, h, t => by
    have e : vs = [] := h
    rw [e]
    exact t
  | d :: ds, _, vs, _, h, t => by
    obtain ⟨v, r, ev, hv, q⟩ := h
    rw [ev]
    exact RpL.cons hv (RpL.append q t)
theorem RpL.take : ∀ {ds : List D} {vs : List V} (k : Nat), RpL G M n ds vs → RpL G M n (ds.take k) (vs.take k) := fun {ds vs} k h =>
  RpL.of_get (by rw [List.length_take, List.length_take, h.length]) fun i d v e1 e2 => by
    rw [List.getElem?_take] at e1 e2
    split at e1
    · rename_i hi
      rw [if_pos hi] at e2
      obtain ⟨w, q1, q2⟩ := h.get e1
      rw [e2] at q1
      cases q1
      exact q2
    · cases e1
theorem RpL.drop : ∀ {ds : List D} {vs : List V} (k : Nat), RpL G M n ds vs → RpL G M n (ds.drop k) (vs.drop k) := fun {ds vs} k h =>
  RpL.of_get (by rw [List.length_drop, List.length_drop, h.length]) fun i d v e1 e2 => by
    rw [List.getElem?_drop] at e1 e2
    obtain ⟨w, q1, q2⟩ := h.get e1
    rw [e2] at q1
    cases q1
    exact q2
theorem RpL.reverse {ds : List D} {vs : List V} (h : RpL G M n ds vs) : RpL G M n ds.reverse vs.reverse := by
  induction ds generalizing vs with
  | nil =>
    have e : vs = [] := h
    rw [e]
    exact RpL.nil
  | cons d ds ih =>
    obtain ⟨v, r, ev, hv, q⟩ := h
    rw [ev, List.reverse_cons, List.reverse_cons]
    exact (ih q).append (RpL.cons hv RpL.nil)
theorem RpL.set {ds : List D} {vs : List V} {d : D} {v : V} (k : Nat) (h : RpL G M n ds vs) (q : Rp G M n d v) : RpL G M n (ds.set k d) (vs.set k v) :=
  RpL.of_get (by rw [List.length_set, List.length_set, h.length]) fun i d' v' e1 e2 => by
    rw [List.getElem?_set] at e1 e2
    have hl := h.length
    by_cases hk : k = i
    · rw [if_pos hk] at e1 e2
      split at e1
      · rename_i hlt
        rw [if_pos (by rw [← hl]; exact hlt)] at e2
        cases e1
        cases e2
        exact q
      · cases e1
    · rw [if_neg hk] at e1 e2
      obtain ⟨w, q1, q2⟩ := h.get e1
      rw [e2] at q1
      cases q1
      exact q2
theorem RpL.dropLast {ds : List D} {vs : List V} (h : RpL G M n ds vs) : RpL G M n ds.dropLast vs.dropLast := by
  rw [List.dropLast_eq_take, List.dropLast_eq_take, h.length]
  exact h.take _
theorem RpL.cut {ds : List D} {vs : List V} (lo hi : Option Int) (h : RpL G M n ds vs) : RpL G M n (cutD ds lo hi) (cutV vs lo hi) := by
  unfold cutD cutV
  rw [h.length]
  exact (h.drop _).take _
theorem RpL.ati {ds : List D} {vs : List V} {i : Int} {d : D} (h : RpL G M n ds vs) (e : atI ds i = some d) : ∃ v, atI vs i = some v ∧ Rp G M n d v := by
  unfold atI at e ⊢
  rw [← h.length]
  cases q : ixN ds.length i with
  | none => rw [q] at e; cases e
  | some j =>
    rw [q] at e
    obtain ⟨v, h1, h2⟩ := h.get (show ds[j]? = some d from e)
    exact ⟨v, h1, h2⟩

/-- more is finished, more stands in the store -/
structure Up (M M' : Mp) (n n' : Nat) : Prop where
  F : ∀ p o, M.F p = some o → M'.F p = some o
  le : n ≤ n'
  m : ∀ a, a < n → M'.m a = M.m a
theorem Up.refl : Up M M n n := ⟨fun _ _ h => h, Nat.le_refl _, fun _ _ => rfl⟩
theorem Up.trans {M2 : Mp} {n2 : Nat} (a : Up M M' n n') (b : Up M' M2 n' n2) : Up M M2 n n2 :=
  ⟨fun p o h => b.F p o (a.F p o h), Nat.le_trans a.le b.le, fun x h => (b.m x (Nat.lt_of_lt_of_le h a.le)).trans (a.m x h)⟩
theorem rd_up {H H' : Hp} (h : ∀ p o, H p = some o → H' p = some o) {a : Addr} {u : HO} (r : Rd H a u) : Rd H' a u := by
  rcases r with r | ⟨o, r⟩
  · exact .inl (h _ _ r)
  · exact .inr ⟨o, h _ _ r⟩
theorem sqT_up {K : PySem.W.Frag} {H H' : Hp} (h : ∀ p o, H p = some o → H' p = some o) {a : Addr} {xs : List V} (r : SqT K H a xs) : SqT K H' a xs := by
  rcases r with r | r
  · exact .inl (rd_up h r)
  · exact .inr r
theorem sqL_up {K : PySem.W.Frag} {H H' : Hp} (h : ∀ p o, H p = some o → H' p = some o) {a : Addr} {xs : List V} (r : SqL K H a xs) : SqL K H' a xs := by
  rcases r with r | r
  · exact .inl (rd_up h r)
  · exact .inr r
mutual
theorem Rp.up (u : Up M M' n n') : ∀ {d : D} {v : V}, Rp G M n d v → Rp G M' n' d v
  | .non, _, h => h
  | .bl _, _, h => h
  | .int _, _, h => h
  | .str _, _, h => h
  | .tup l, _, h => by
    obtain ⟨p, vs, e, s, t⟩ := h
    exact ⟨p, vs, e, sqT_up u.F s, RpL.up u t⟩
  | .lst l, _, h => by
    obtain ⟨p, vs, e, s, t⟩ := h
    exact ⟨p, vs, e, u.F _ _ s, RpL.up u t⟩
  | .scr l, _, h => by
    obtain ⟨p, vs, e, s, t⟩ := h
    exact ⟨p, vs, e, sqL_up u.F s, RpL.up u t⟩
  | .obj c l, _, h => by
    obtain ⟨p, dx, vs, e, s, z, t⟩ := h
    exact ⟨p, dx, vs, e, u.F _ _ s, z, RpL.up u t⟩
  | .ref a, _, h => by
    obtain ⟨h1, h2⟩ := h
    exact ⟨Nat.lt_of_lt_of_le h1 u.le, by rw [u.m a h1]; exact h2⟩
  | .dic, _, h => by
    obtain ⟨p, e, s⟩ := h
    exact ⟨p, e, u.F _ _ s⟩
theorem RpL.up (u : Up M M' n n') : ∀ {ds : List D} {vs : List V}, RpL G M n ds vs → RpL G M' n' ds vs
  | [], _, h => h
  | d :: ds, _, h => by
    obtain ⟨v, r, e, hv, t⟩ := h
    exact ⟨v, r, e, Rp.up u hv, RpL.up u t⟩
end
mutual
/-- what refers to nothing behind k, told with k objects -/
theorem Rp.down {k : Nat} : ∀ {d : D} {v : V}, Rp G M n d v → D.bdd k d = true → Rp G M k d v
  | .non, _, h, _ => h
  | .bl _, _, h, _ => h
  | .int _, _, h, _ => h
  | .str _, _, h, _ => h
  | .tup l, _, h, b => by
    obtain ⟨p, vs, e, s, t⟩ := h
    exact ⟨p, vs, e, s, RpL.down t b⟩
  | .lst l, _, h, b => by
    obtain ⟨p, vs, e, s, t⟩ := h
    exact ⟨p, vs, e, s, RpL.down t b⟩
  | .scr l, _, h, b => by
    obtain ⟨p, vs, e, s, t⟩ := h
    exact ⟨p, vs, e, s, RpL.down t b⟩
  | .obj c l, _, h, b => by
    obtain ⟨p, dx, vs, e, s, z, t⟩ := h
    exact ⟨p, dx, vs, e, s, z, RpL.down t b⟩
  | .ref a, _, h, b => ⟨of_decide_eq_true b, h.2⟩
  | .dic, _, h, _ => h
theorem RpL.down {k : Nat} : ∀ {ds : List D} {vs : List V}, RpL G M n ds vs → D.bddL k ds = true → RpL G M k ds vs
  | [], _, h, _ => h
  | d :: ds, _, h, b => by
    obtain ⟨v, r, e, hv, t⟩ := h
    have b' : (D.bdd k d && D.bddL k ds) = true := b
    rw [Bool.and_eq_true] at b'
    exact ⟨v, r, e, Rp.down hv b'.1, RpL.down t b'.2⟩
end
mutual
theorem Rp.bdd : ∀ {d : D} {v : V}, Rp G M n d v → D.bdd n d = true
  | .non, _, _ => rfl
  | .bl _, _, _ => rfl
  | .int _, _, _ => rfl
  | .str _, _, _ => rfl
  | .tup l, _, h => by
    obtain ⟨p, vs, e, s, t⟩ := h
    exact RpL.bdd t
  | .lst l, _, h => by
    obtain ⟨p, vs, e, s, t⟩ := h
    exact RpL.bdd t
  | .scr l, _, h => by
    obtain ⟨p, vs, e, s, t⟩ := h
    exact RpL.bdd t
  | .obj c l, _, h => by
    obtain ⟨p, dx, vs, e, s, z, t⟩ := h
    exact RpL.bdd t
  | .ref a, _, h => decide_eq_true h.1
  | .dic, _, _ => rfl
theorem RpL.bdd : ∀ {ds : List D} {vs : List V}, RpL G M n ds vs → D.bddL n ds = true
  | [], _, _ => rfl
  | d :: ds, _, h => by
    obtain ⟨v, r, e, hv, t⟩ := h
    show (D.bdd n d && D.bddL n ds) = true
    rw [Rp.bdd hv, RpL.bdd t] <;> rfl
end

/-! ### the store -/
def ObjR (G : Gx) (M : Mp) (n : Nat) : SO → Option HO → Prop
  | .lst l, x => ∃ vs, x = some (.lst vs) ∧ RpL G M n l vs
  | .ins c l, x => ∃ dx vs, x = some (.ins (G.cA c) dx ((G.cN c).zip vs)) ∧ l.length ≤ (G.cN c).length ∧ RpL G M n l vs
theorem ObjR.up (u : Up M M' n n') {o : SO} {x : Option HO} (h : ObjR G M n o x) : ObjR G M' n' o x := by
  cases o with
  | lst l =>
    obtain ⟨vs, e, t⟩ := h
    exact ⟨vs, e, t.up u⟩
  | ins c l =>
    obtain ⟨dx, vs, e, z, t⟩ := h
    exact ⟨dx, vs, e, z, t.up u⟩
structure Rel (G : Gx) (M : Mp) (S : Store) (H : Hp) : Prop where
  sub : ∀ p o, M.F p = some o → H p = some o
  inj : ∀ a b, a < S.length → b < S.length → M.m a = M.m b → a = b
  obj : ∀ (a : Nat) (o : SO), S[a]? = some o → ObjR G M S.length o (H (M.m a)) ∧ M.F (M.m a) = none
/-- from one moment to a later one; what is nobody's stays as it is and nobody's -/
structure Ext (M : Mp) (S : Store) (H : Hp) (M' : Mp) (S' : Store) (H' : Hp) : Prop where
  up : Up M M' S.length S'.length
  fgn : ∀ p o, H p = some o → M.F p = none → (∀ a, a < S.length → M.m a ≠ p) → H' p = some o ∧ M'.F p = none ∧ ∀ a, a < S'.length → M'.m a ≠ p
theorem Ext.refl {S : Store} {H : Hp} : Ext M S H M S H := ⟨.refl, fun p o h1 h2 h3 => ⟨h1, h2, h3⟩⟩
theorem Ext.trans {M2 : Mp} {S S' S2 : Store} {H H' H2 : Hp} (a : Ext M S H M' S' H') (b : Ext M' S' H' M2 S2 H2) : Ext M S H M2 S2 H2 :=
  ⟨a.up.trans b.up, fun p o h1 h2 h3 => let ⟨q1, q2, q3⟩ := a.fgn p o h1 h2 h3; b.fgn p o q1 q2 q3⟩

/-! ### the names -/
def SlotR (G : Gx) (M : Mp) (S : Store) (H : Hp) (x : Option (Option V)) : Slot → Prop
  | .un => True
  | .val d => ∃ v, x = some (some v) ∧ Rp G M S.length d v
  | .own l => ∃ p vs, x = some (some (.ref p)) ∧ H p = some (.lst vs) ∧ RpL G M S.length l vs ∧ M.F p = none ∧ ∀ a, a < S.length → M.m a ≠ p
structure EnvR (G : Gx) (M : Mp) (S : Store) (H : Hp) (σ : L2.St) (ρ : Env) : Prop where
  len : ρ.length = σ.length
  sl : ∀ (i : Nat) (s : Slot), ρ[i]? = some s → SlotR G M S H σ[i]? s
  ap : ∀ (i j : Nat) (l l' : List D) (p : Addr), ρ[i]? = some (.own l) → ρ[j]? = some (.own l') → σ[i]? = some (some (.ref p)) → σ[j]? = some (some (.ref p)) → i = j
theorem EnvR.ext {S S' : Store} {H H' : Hp} {σ : L2.St} {ρ : Env} (e : EnvR G M S H σ ρ) (x : Ext M S H M' S' H') : EnvR G M' S' H' σ ρ := by
  refine ⟨e.len, fun i s hs => ?_, e.ap⟩
  have q := e.sl i s hs
  cases s with
  | un => exact True.intro
  | val d =>
    obtain ⟨v, h1, h2⟩ := q
    exact ⟨v, h1, h2.up x.up⟩
  | own l =>
    obtain ⟨p, vs, h1, h2, h3, h4, h5⟩ := q
    obtain ⟨q1, q2, q3⟩ := x.fgn p _ h2 h4 h5
    exact ⟨p, vs, h1, q1, h3.up x.up, q2, q3⟩
theorem EnvR.getV {S : Store} {H : Hp} {σ : L2.St} {ρ : Env} {i : Nat} {d : D} (e : EnvR G M S H σ ρ) (h : getV ρ i = some d) : ∃ v, σ[i]? = some (some v) ∧ Rp G M S.length d v := by
  unfold HN.getV at h
  split at h
  · rename_i d' q
    cases h
    exact e.sl i _ q
  · cases h
theorem EnvR.getO {S : Store} {H : Hp} {σ : L2.St} {ρ : Env} {i : Nat} {l : List D} (e : EnvR G M S H σ ρ) (h : getO ρ i = some l) :
    ρ[i]? = some (.own l) ∧ ∃ p vs, σ[i]? = some (some (.ref p)) ∧ H p = some (.lst vs) ∧ RpL G M S.length l vs ∧ M.F p = none ∧ ∀ a, a < S.length → M.m a ≠ p := by
  unfold HN.getO at h
  split at h
  · rename_i d' q
    cases h
    exact ⟨q, e.sl i _ q⟩
  · cases h
/-- a value is stored in a name -/
theorem EnvR.putV {S : Store} {H : Hp} {σ : L2.St} {ρ : Env} {i : Nat} {d : D} {v : V} (e : EnvR G M S H σ ρ) (hi : i < ρ.length) (h : Rp G M S.length d v) : EnvR G M S H (σ.set i (some v)) (putV ρ i d) := by
  have hs : i < σ.length := by rw [← e.len]; exact hi
  unfold HN.putV
  refine ⟨by rw [List.length_set, List.length_set, e.len], fun j s hj => ?_, fun j k l l' p h1 h2 h3 h4 => ?_⟩
  · by_cases q : i = j
    · subst q
      rw [List.getElem?_set_self hi] at hj
      cases hj
      rw [List.getElem?_set_self hs]
      exact ⟨v, rfl, h⟩
    · rw [List.getElem?_set_ne q] at hj ⊢
      exact e.sl j s hj
  · have n1 : i ≠ j := by
      rintro rfl
      rw [List.getElem?_set_self hi] at h1
      cases h1
    have n2 : i ≠ k := by
      rintro rfl
      rw [List.getElem?_set_self hi] at h2
      cases h2
    rw [List.getElem?_set_ne n1] at h1 h3
    rw [List.getElem?_set_ne n2] at h2 h4
    exact e.ap j k l l' p h1 h2 h3 h4
/-- a name holds a list of its own -/
theorem EnvR.putO {S : Store} {H : Hp} {σ : L2.St} {ρ : Env} {i : Nat} {l : List D} {p : Addr} {vs : List V} (e : EnvR G M S H σ ρ) (hi : i < ρ.length) (hp : H p = some (.lst vs)) (h : RpL G M S.length l vs) (hF : M.F p = none) (hm : ∀ a, a < S.length → M.m a ≠ p)
    (no : ∀ (j : Nat) (l' : List D), ρ[j]? = some (.own l') → σ[j]? ≠ some (some (.ref p))) : EnvR G M S H (σ.set i (some (.ref p))) (ρ.set i (.own l)) := by
  have hs : i < σ.length := by rw [← e.len]; exact hi
  refine ⟨by rw [List.length_set, List.length_set, e.len], fun j s hj => ?_, fun j k l1 l2 q h1 h2 h3 h4 => ?_⟩
  · by_cases q : i = j
    · subst q
      rw [List.getElem?_set_self hi] at hj
      cases hj
      rw [List.getElem?_set_self hs]
      exact ⟨p, vs, rfl, hp, h, hF, hm⟩
    · rw [List.getElem?_set_ne q] at hj ⊢
      exact e.sl j s hj
  · by_cases n1 : i = j
    · by_cases n2 : i = k
      · exact n1.symm.trans n2
      · subst n1
        rw [List.getElem?_set_self hs] at h3
        cases h3
        rw [List.getElem?_set_ne n2] at h2 h4
        exact absurd h4 (no k l2 h2)
    · by_cases n2 : i = k
      · subst n2
        rw [List.getElem?_set_self hs] at h4
        cases h4
        rw [List.getElem?_set_ne n1] at h1 h3
        exact absurd h3 (no j l1 h1)
      · rw [List.getElem?_set_ne n1] at h1 h3
        rw [List.getElem?_set_ne n2] at h2 h4
        exact e.ap j k l1 l2 q h1 h2 h3 h4

/-! ### new objects -/
/-- a new finished object -/
theorem rel_fin {S : Store} {H : Hp} {p : Addr} {o : HO} (r : Rel G M S H) (hp : H p = none) : Rel G ⟨upd M.F p o, M.m⟩ S (upd H p o) ∧ Ext M S H ⟨upd M.F p o, M.m⟩ S (upd H p o) := by
  have nF : M.F p = none := by
    cases q : M.F p with
    | none => rfl
    | some u => rw [r.sub p u q] at hp; cases hp
  have nm : ∀ a, a < S.length → M.m a ≠ p := fun a ha e => by
    obtain ⟨h1, _⟩ := r.obj a _ (List.getElem?_eq_getElem ha)
    rw [e, hp] at h1
    cases q : S[a] with
    | lst l => rw [q] at h1; obtain ⟨vs, e, _⟩ := h1; cases e
    | ins c l => rw [q] at h1; obtain ⟨dx, vs, e, _⟩ := h1; cases e
  have up : Up M ⟨upd M.F p o, M.m⟩ S.length S.length := ⟨fun b u q => by
    show upd M.F p o b = some u
    rw [upd_ne (ne_of_none q nF)]; exact q, Nat.le_refl _, fun _ _ => rfl⟩
  refine ⟨⟨fun b u q => ?_, r.inj, fun a u ha => ?_⟩, up, fun b u h1 h2 h3 => ?_⟩
  · have q' : upd M.F p o b = some u := q
    by_cases hb : b = p
    · subst hb
      rw [upd_same] at q' ⊢
      exact q'
    · rw [upd_ne hb] at q' ⊢
      exact r.sub b u q'
  · obtain ⟨h1, h2⟩ := r.obj a u ha
    have ha' : a < S.length := (List.getElem?_eq_some_iff.mp ha).1
    have ne := nm a ha'
    refine ⟨?_, ?_⟩
    · show ObjR G _ _ u (upd H p o (M.m a))
      rw [upd_ne ne]
      exact h1.up up
    · show upd M.F p o (M.m a) = none
      rw [upd_ne ne]
      exact h2
  · have hb : b ≠ p := fun e => by rw [e, hp] at h1; cases h1
    exact ⟨by rw [upd_ne hb]; exact h1, by show upd M.F p o b = none; rw [upd_ne hb]; exact h2, h3⟩
/-- a new object that is nobody's yet -/
theorem rel_free {S : Store} {H : Hp} {p : Addr} {o : HO} (r : Rel G M S H) (hp : H p = none) : Rel G M S (upd H p o) ∧ Ext M S H M S (upd H p o) ∧ M.F p = none ∧ ∀ a, a < S.length → M.m a ≠ p := by
  have nF : M.F p = none := by
    cases q : M.F p with
    | none => rfl
    | some u => rw [r.sub p u q] at hp; cases hp
  have nm : ∀ a, a < S.length → M.m a ≠ p := fun a ha e => by
    obtain ⟨h1, _⟩ := r.obj a _ (List.getElem?_eq_getElem ha)
    rw [e, hp] at h1
    cases q : S[a] with
    | lst l => rw [q] at h1; obtain ⟨vs, e, _⟩ := h1; cases e
    | ins c l => rw [q] at h1; obtain ⟨dx, vs, e, _⟩ := h1; cases e
  refine ⟨⟨fun b u q => ?_, r.inj, fun a u ha => ?_⟩, ⟨.refl, fun b u h1 h2 h3 => ⟨?_, h2, h3⟩⟩, nF, nm⟩
  · rw [upd_ne (ne_of_none q nF)]; exact r.sub b u q
  · obtain ⟨h1, h2⟩ := r.obj a u ha
    rw [upd_ne (nm a (List.getElem?_eq_some_iff.mp ha).1)]
    exact ⟨h1, h2⟩
  · rw [upd_ne (fun e => by rw [e, hp] at h1; cases h1)]; exact h1
/-- what is nobody's is changed -/
theorem rel_chg {S : Store} {H : Hp} {p : Addr} {o : HO} (r : Rel G M S H) (nF : M.F p = none) (nm : ∀ a, a < S.length → M.m a ≠ p) : Rel G M S (upd H p o) := by
  refine ⟨fun b u q => ?_, r.inj, fun a u ha => ?_⟩
  · rw [upd_ne (ne_of_none q nF)]; exact r.sub b u q
  · obtain ⟨h1, h2⟩ := r.obj a u ha
    rw [upd_ne (nm a (List.getElem?_eq_some_iff.mp ha).1)]
    exact ⟨h1, h2⟩
/-- what is nobody's becomes finished -/
theorem rel_freeze {S : Store} {H : Hp} {p : Addr} {o : HO} (r : Rel G M S H) (hp : H p = some o) (nF : M.F p = none) (nm : ∀ a, a < S.length → M.m a ≠ p) : Rel G ⟨upd M.F p o, M.m⟩ S H ∧ Up M ⟨upd M.F p o, M.m⟩ S.length S.length := by
  have up : Up M ⟨upd M.F p o, M.m⟩ S.length S.length := ⟨fun b u q => by
    show upd M.F p o b = some u
    rw [upd_ne (ne_of_none q nF)]; exact q, Nat.le_refl _, fun _ _ => rfl⟩
  refine ⟨⟨fun b u q => ?_, r.inj, fun a u ha => ?_⟩, up⟩
  · have q' : upd M.F p o b = some u := q
    by_cases hb : b = p
    · subst hb
      rw [upd_same] at q'
      rw [← q']
      exact hp
    · rw [upd_ne hb] at q'
      exact r.sub b u q'
  · obtain ⟨h1, h2⟩ := r.obj a u ha
    refine ⟨h1.up up, ?_⟩
    show upd M.F p o (M.m a) = none
    rw [upd_ne (nm a (List.getElem?_eq_some_iff.mp ha).1)]
    exact h2
def Mp.push (M : Mp) (n : Nat) (p : Addr) : Mp := ⟨M.F, fun a => if a = n then p else M.m a⟩
/-- what is nobody's becomes the store's -/
theorem rel_share {S : Store} {H : Hp} {p : Addr} {o : SO} (r : Rel G M S H) (hp : ObjR G M S.length o (H p)) (nF : M.F p = none) (nm : ∀ a, a < S.length → M.m a ≠ p) :
    Rel G (M.push S.length p) (S ++ [o]) H ∧ Up M (M.push S.length p) S.length (S ++ [o]).length ∧ (M.push S.length p).m S.length = p := by
  have pm : ∀ a, a < S.length → (M.push S.length p).m a = M.m a := fun a ha => by
    show (if a = S.length then p else M.m a) = M.m a
    rw [if_neg (Nat.ne_of_lt ha)]
  have pn : (M.push S.length p).m S.length = p := by
    show (if S.length = S.length then p else M.m S.length) = p
    rw [if_pos rfl]
  have hl : (S ++ [o]).length = S.length + 1 := by simp
  have up : Up M (M.push S.length p) S.length (S ++ [o]).length := ⟨fun b u q => q, by rw [hl]; exact Nat.le_succ _, pm⟩
  refine ⟨⟨r.sub, fun a b ha hb e => ?_, fun a u ha => ?_⟩, up, pn⟩
  · rw [hl] at ha hb
    by_cases h1 : a = S.length
    · by_cases h2 : b = S.length
      · rw [h1, h2]
      · subst h1
        have hb' : b < S.length := by omega
        rw [pn, pm b hb'] at e
        exact absurd e.symm (nm b hb')
    · have ha' : a < S.length := by omega
      by_cases h2 : b = S.length
      · subst h2
        rw [pn, pm a ha'] at e
        exact absurd e (nm a ha')
      · have hb' : b < S.length := by omega
        rw [pm a ha', pm b hb'] at e
        exact r.inj a b ha' hb' e
  · by_cases h1 : a < S.length
    · rw [List.getElem?_append_left h1] at ha
      obtain ⟨q1, q2⟩ := r.obj a u ha
      rw [pm a h1]
      exact ⟨q1.up up, q2⟩
    · have e : a = S.length := by
        have := (List.getElem?_eq_some_iff.mp ha).1
        rw [hl] at this
        omega
      subst e
      rw [List.getElem?_append_right (Nat.le_refl _), Nat.sub_self] at ha
      have e2 : o = u := by simpa using ha
      subst e2
      rw [pn]
      exact ⟨hp.up up, nF⟩
/-- an object of the store is changed -/
theorem rel_set {S : Store} {H : Hp} {a : Nat} {o : SO} {u : HO} (r : Rel G M S H) (ha : a < S.length) (ho : ObjR G M S.length o (some u)) : Rel G M (S.set a o) (upd H (M.m a) u) ∧ Ext M S H M (S.set a o) (upd H (M.m a) u) := by
  have hl : (S.set a o).length = S.length := List.length_set
  have nF : M.F (M.m a) = none := (r.obj a _ (List.getElem?_eq_getElem ha)).2
  refine ⟨⟨fun b x q => ?_, fun x y hx hy => r.inj x y (by rw [← hl]; exact hx) (by rw [← hl]; exact hy), fun b x hb => ?_⟩, ⟨⟨fun _ _ q => q, by rw [hl]; exact Nat.le_refl _, fun _ _ => rfl⟩, fun p x h1 h2 h3 => ⟨?_, h2, fun c hc => h3 c (by rw [← hl]; exact hc)⟩⟩⟩
  · rw [upd_ne (ne_of_none q nF)]; exact r.sub b x q
  · have hb' : b < S.length := by
      have := (List.getElem?_eq_some_iff.mp hb).1
      rw [hl] at this
      exact this
    rw [hl]
    by_cases e : a = b
    · subst e
      rw [List.getElem?_set_self ha] at hb
      cases hb
      rw [upd_same]
      exact ⟨ho, nF⟩
    · rw [List.getElem?_set_ne e] at hb
      obtain ⟨q1, q2⟩ := r.obj b x hb
      rw [upd_ne (fun z => e (r.inj a b ha hb' z.symm))]
      exact ⟨q1, q2⟩
  · rw [upd_ne (Ne.symm (h3 a ha))]; exact h1
/-- what was made and left behind is forgotten -/
theorem rel_gc {S S' : Store} {H H' : Hp} (r : Rel G M S H) (x : Ext M S H M' S' H') (r' : Rel G M' S' H') (e : S'.take S.length = S) : Rel G M' S H' ∧ Ext M S H M' S H' := by
  have at' : ∀ (a : Nat) (o : SO), S[a]? = some o → S'[a]? = some o := fun a o ha => by
    have h1 : a < S.length := (List.getElem?_eq_some_iff.mp ha).1
    have h2 : (S'.take S.length)[a]? = some o := by rw [e]; exact ha
    rw [List.getElem?_take, if_pos h1] at h2
    exact h2
  have le := x.up.le
  refine ⟨⟨r'.sub, fun a b ha hb => r'.inj a b (Nat.lt_of_lt_of_le ha le) (Nat.lt_of_lt_of_le hb le), fun a o ha => ?_⟩, ⟨x.up.F, Nat.le_refl _, x.up.m⟩, fun p o h1 h2 h3 => ?_⟩
  · obtain ⟨q1, q2⟩ := r'.obj a o (at' a o ha)
    refine ⟨?_, q2⟩
    obtain ⟨q3, _⟩ := r.obj a o ha
    cases o with
    | lst l =>
      obtain ⟨vs, e1, t⟩ := q1
      obtain ⟨vs0, _, t0⟩ := q3
      exact ⟨vs, e1, t.down t0.bdd⟩
    | ins c l =>
      obtain ⟨dx, vs, e1, z, t⟩ := q1
      obtain ⟨dx0, vs0, _, _, t0⟩ := q3
      exact ⟨dx, vs, e1, z, t.down t0.bdd⟩
  · obtain ⟨q1, q2, q3⟩ := x.fgn p o h1 h2 h3
    exact ⟨q1, q2, fun a ha => q3 a (Nat.lt_of_lt_of_le ha le)⟩
end
end HN

/-! The operators of HN, by the rules of HandS. -/
namespace HN
open PySem L2

theorem nn {α : Type} {d : α} {C : Prop} (h : (none : Option α) = some d) : C := nomatch h
theorem nb {C : Prop} (h : false = true) : C := nomatch h
/-! ### weaker readings -/
section
variable {X : Cx}
theorem pe_weak {e : Expr} {t t' : TE} (h : PE X e t) (i : ∀ σ H Q, t' σ H Q → t σ H Q) : PE X e t' := ⟨fun pins s σ H Q I q => h.run pins s σ H Q I (i _ _ _ q)⟩
theorem pt_weak {e : Expr} {t t' : TT} (h : PT X e t) (i : ∀ σ H Q, t' σ H Q → t σ H Q) : PT X e t' := ⟨fun pins s σ H Q I q => h.run pins s σ H Q I (i _ _ _ q)⟩
theorem pw_weak {e : Expr} {t t' : TT} (h : PW X e t) (i : ∀ σ H Q, t' σ H Q → t σ H Q) : PW X e t' := ⟨fun wh pins s σ H Q I q => h.run wh pins s σ H Q I (i _ _ _ q)⟩
theorem pa_weak {e : List Expr} {t t' : TA} (h : PA X e t) (i : ∀ σ H Q, t' σ H Q → t σ H Q) : PA X e t' := ⟨fun pos pins s σ H Q I q => h.run pos pins s σ H Q I (i _ _ _ q)⟩
theorem ps_weak {e : Stmt} {t t' : TS} (h : PS X e t) (i : ∀ D σ H, t' D σ H → t D σ H) : PS X e t' := ⟨fun pins s σ H D I q => h.run pins s σ H D I (i _ _ _ q)⟩
theorem pss_weak {e : List Stmt} {t t' : TS} (h : PSs X e t) (i : ∀ D σ H, t' D σ H → t D σ H) : PSs X e t' := ⟨fun pins s σ H D I q => h.run pins s σ H D I (i _ _ _ q)⟩
end

/-! ### data -/
mutual
theorem eqv_py : ∀ (a b : D), D.data a = true → D.data b = true → PyData.eqv (toPy a) (toPy b) = D.eqv a b
  | .non, b, _, hb => by cases b <;> first | rfl | cases hb
  | .bl x, b, _, hb => by cases b <;> first | rfl | cases hb
  | .int i, b, _, hb => by cases b <;> first | rfl | cases hb
  | .str s, b, _, hb => by cases b <;> first | rfl | cases hb
  | .tup l, b, ha, hb => by
    cases b with
    | tup l' => exact eqv_pyL l l' ha hb
    | _ => first | rfl | cases hb
  | .lst l, b, ha, hb => by
    cases b with
    | lst l' => exact eqv_pyL l l' ha hb
    | _ => first | rfl | cases hb
  | .scr _, _, ha, _ => by cases ha
  | .obj _ _, _, ha, _ => by cases ha
  | .ref _, _, ha, _ => by cases ha
  | .dic, _, ha, _ => by cases ha
theorem eqv_pyL : ∀ (a b : List D), D.dataL a = true → D.dataL b = true → PyData.eqvAll (toPyL a) (toPyL b) = D.eqvL a b
  | [], [], _, _ => rfl
  | [], _ :: _, _, _ => rfl
  | _ :: _, [], _, _ => rfl
  | x :: xs, y :: ys, ha, hb => by
    have ha' : (D.data x && D.dataL xs) = true := ha
    have hb' : (D.data y && D.dataL ys) = true := hb
    rw [Bool.and_eq_true] at ha' hb'
    show (PyData.eqv (toPy x) (toPy y) && PyData.eqvAll (toPyL xs) (toPyL ys)) = (D.eqv x y && D.eqvL xs ys)
    rw [eqv_py x y ha'.1 hb'.1, eqv_pyL xs ys ha'.2 hb'.2]
end
mutual
theorem dep_py : ∀ (a : D), D.data a = true → (toPy a).depth = D.dep a
  | .non, _ => rfl
  | .bl _, _ => rfl
  | .int _, _ => rfl
  | .str _, _ => rfl
  | .tup l, h => congrArg (· + 1) (dep_pyL l h)
  | .lst l, h => congrArg (· + 1) (dep_pyL l h)
  | .scr _, h => by cases h
  | .obj _ _, h => by cases h
  | .ref _, h => by cases h
  | .dic, h => by cases h
theorem dep_pyL : ∀ (a : List D), D.dataL a = true → PyData.depthAll (toPyL a) = D.depL a
  | [], _ => rfl
  | x :: xs, h => by
    have h' : (D.data x && D.dataL xs) = true := h
    rw [Bool.and_eq_true] at h'
    show max (toPy x).depth (PyData.depthAll (toPyL xs)) = max (D.dep x) (D.depL xs)
    rw [dep_py x h'.1, dep_pyL xs h'.2]
end
section
variable {G : Gx} {M : Mp} {n : Nat} {H : Hp}
mutual
theorem dp_of (sub : ∀ p o, M.F p = some o → H p = some o) : ∀ {d : D} {v : V}, D.data d = true → Rp G M n d v → Dp G.K H v (toPy d)
  | .non, _, _, h => by cases h; exact .non
  | .bl _, _, _, h => by cases h; exact .bl _
  | .int _, _, _, h => by cases h; exact .int _
  | .str _, _, _, h => by
    obtain ⟨e, _⟩ := h
    rw [e]; exact .str _
  | .tup l, _, q, h => by
    obtain ⟨p, vs, e, s, t⟩ := h
    rw [e]; exact .tup (sqT_up sub s) (dp_ofL sub q t)
  | .lst l, _, q, h => by
    obtain ⟨p, vs, e, s, t⟩ := h
    rw [e]; exact .lst (SqL.of (sub _ _ s)) (dp_ofL sub q t)
  | .scr _, _, q, _ => by cases q
  | .obj _ _, _, q, _ => by cases q
  | .ref _, _, q, _ => by cases q
  | .dic, _, q, _ => by cases q
theorem dp_ofL (sub : ∀ p o, M.F p = some o → H p = some o) : ∀ {ds : List D} {vs : List V}, D.dataL ds = true → RpL G M n ds vs → DpAll G.K H vs (toPyL ds)
  | [], _, _, h => by
    have e : _ = [] := h
    rw [e]; exact .nil
  | d :: ds, _, q, h => by
    obtain ⟨v, r, e, hv, t⟩ := h
    have q' : (D.data d && D.dataL ds) = true := q
    rw [Bool.and_eq_true] at q'
    rw [e]; exact .cons (dp_of sub q'.1 hv) (dp_ofL sub q'.2 t)
end
mutual
theorem lay_of : ∀ {d : D} {v : V}, D.data d = true → Rp G M n d v → (toPy d).canLay0 = true
  | .non, _, _, _ => rfl
  | .bl _, _, _, _ => rfl
  | .int _, _, _, _ => rfl
  | .str _, _, _, h => h.2.1
  | .tup l, _, q, h => by
    obtain ⟨p, vs, e, s, t⟩ := h
    exact lay_ofL (ds := l) q t
  | .lst l, _, q, h => by
    obtain ⟨p, vs, e, s, t⟩ := h
    exact lay_ofL (ds := l) q t
  | .scr _, _, q, _ => by cases q
  | .obj _ _, _, q, _ => by cases q
  | .ref _, _, q, _ => by cases q
  | .dic, _, q, _ => by cases q
theorem lay_ofL : ∀ {ds : List D} {vs : List V}, D.dataL ds = true → RpL G M n ds vs → PyData.canLayAll0 (toPyL ds) = true
  | [], _, _, _ => rfl
  | d :: ds, _, q, h => by
    obtain ⟨v, r, e, hv, t⟩ := h
    have q' : (D.data d && D.dataL ds) = true := q
    rw [Bool.and_eq_true] at q'
    show (PyData.canLay0 (toPy d) && PyData.canLayAll0 (toPyL ds)) = true
    rw [lay_of q'.1 hv, lay_ofL q'.2 t] <;> rfl
end
end

/-! ### two-place operators: what a rule must give -/
/-- r gives what g says, wherever g says something -/
def R2ok (G : Gx) (g : Store → D → D → Option D) (r : R2) : Prop :=
  ∀ (M : Mp) (S : Store) (H : Hp) (x y : V) (a b d : D) (Q : VK), Rel G M S H → Rp G M S.length a x → Rp G M S.length b y → g S a b = some d →
    (∀ v M' H', Rel G M' S H' → Ext M S H M' S H' → Rp G M' S.length d v → Q v H') → r x y H Q
theorem opR_never {X : Cx} {f : Value → Value → Sem Value} : OpR X f (fun _ _ _ _ => False) := fun _ _ _ _ _ _ _ _ _ _ _ _ h => h.elim
section
variable {X : Cx} {G : Gx}
def rEq2 (K : PySem.W.Frag) : R2 := fun x y H Q => ∃ d e, Dp K H x d ∧ Dp K H y e ∧ PyData.canLay0 d = true ∧ PyData.canLay0 e = true ∧ min d.depth e.depth ≤ 64 ∧ Q (.bl (PyData.eqv d e)) H
theorem op_eq2 (hu : X.A.units + 64 < cLine) : OpR X (compareOp .Eq) (rEq2 X.K) := by
  intro pins s σ H x y v u Q I rx ry h
  obtain ⟨d, e, hd, he, sd, se, hm, q⟩ := h
  obtain ⟨as, r1⟩ := Dp.reads I d x v hd rx
  obtain ⟨bs, r2⟩ := Dp.reads I e y u he ry
  exact SeqAt.compareEq_reads r1 r2 sd se (by omega) ⟨.bl _, H, I, rfl, q⟩
def rNe2 (K : PySem.W.Frag) : R2 := fun x y H Q => ∃ d e, Dp K H x d ∧ Dp K H y e ∧ PyData.canLay0 d = true ∧ PyData.canLay0 e = true ∧ min d.depth e.depth ≤ 64 ∧ Q (.bl (!PyData.eqv d e)) H
theorem op_ne2 (hu : X.A.units + 64 < cLine) : OpR X (compareOp .NotEq) (rNe2 X.K) := by
  intro pins s σ H x y v u Q I rx ry h
  obtain ⟨d, e, hd, he, sd, se, hm, q⟩ := h
  obtain ⟨as, r1⟩ := Dp.reads I d x v hd rx
  obtain ⟨bs, r2⟩ := Dp.reads I e y u he ry
  exact SeqAt.compareNe_reads r1 r2 sd se (by omega) ⟨.bl _, H, I, rfl, q⟩
def rInX (K : PySem.W.Frag) : R2 := fun x y H Q => ∃ d ds, Dp K H x d ∧ (Dp K H y (.list ds) ∨ Dp K H y (.tuple ds)) ∧ PyData.canLay0 d = true ∧ PyData.canLayAll0 ds = true ∧ min (PyData.depthAll ds) d.depth ≤ 64 ∧ Q (.bl (ds.any fun z => PyData.eqv z d)) H
theorem op_inX (hu : X.A.units + 65 < cLine) : OpR X (compareOp .In) (rInX X.K) := by
  intro pins s σ H x y v u Q I rx ry h
  obtain ⟨d, ds, hd, he, sd, se, hm, q⟩ := h
  obtain ⟨as, r1⟩ := Dp.reads I d x v hd rx
  rcases he with he | he
  · obtain ⟨bs, r2⟩ := Dp.reads I (.list ds) y u he ry
    exact SeqAt.in_list_reads r2 r1 se sd (by omega) ⟨.bl _, H, I, rfl, q⟩
  · obtain ⟨bs, r2⟩ := Dp.reads I (.tuple ds) y u he ry
    exact SeqAt.in_tuple_reads r2 r1 se sd (by omega) ⟨.bl _, H, I, rfl, q⟩
def rNiX (K : PySem.W.Frag) : R2 := fun x y H Q => ∃ d ds, Dp K H x d ∧ (Dp K H y (.list ds) ∨ Dp K H y (.tuple ds)) ∧ PyData.canLay0 d = true ∧ PyData.canLayAll0 ds = true ∧ min (PyData.depthAll ds) d.depth ≤ 64 ∧ Q (.bl (!ds.any fun z => PyData.eqv z d)) H
theorem op_niX (hu : X.A.units + 65 < cLine) : OpR X (compareOp .NotIn) (rNiX X.K) := by
  intro pins s σ H x y v u Q I rx ry h
  obtain ⟨d, ds, hd, he, sd, se, hm, q⟩ := h
  obtain ⟨as, r1⟩ := Dp.reads I d x v hd rx
  rcases he with he | he
  · obtain ⟨bs, r2⟩ := Dp.reads I (.list ds) y u he ry
    exact SeqAt.notIn_list_reads r2 r1 se sd (by omega) ⟨.bl _, H, I, rfl, q⟩
  · obtain ⟨bs, r2⟩ := Dp.reads I (.tuple ds) y u he ry
    exact SeqAt.notIn_tuple_reads r2 r1 se sd (by omega) ⟨.bl _, H, I, rfl, q⟩
theorem any_py (x : D) (hx : D.data x = true) : ∀ l : List D, D.dataL l = true → ((toPyL l).any fun z => PyData.eqv z (toPy x)) = l.any fun y => D.eqv y x
  | [], _ => rfl
  | y :: ys, h => by
    have h' : (D.data y && D.dataL ys) = true := h
    rw [Bool.and_eq_true] at h'
    show (PyData.eqv (toPy y) (toPy x) || _) = (D.eqv y x || _)
    rw [eqv_py y x h'.1 hx, any_py x hx ys h'.2]
/-- comparisons -/
def gCmp (op : COp) : Store → D → D → Option D := fun _ a b => (cmpD op a b).map .bl
theorem eqD_some {a b : D} {k : Bool} (h : eqD a b = some k) : D.data a = true ∧ D.data b = true ∧ min (D.dep a) (D.dep b) ≤ 64 ∧ k = D.eqv a b := by
  unfold eqD at h
  split at h
  · rename_i c
    simp only [Bool.and_eq_true, decide_eq_true_eq] at c
    cases h
    exact ⟨c.1.1, c.1.2, c.2, rfl⟩
  · cases h
theorem inD_some {x : D} {l : List D} {k : Bool} (h : inD x l = some k) : D.data x = true ∧ D.dataL l = true ∧ min (D.depL l) (D.dep x) ≤ 64 ∧ k = l.any fun y => D.eqv y x := by
  unfold inD at h
  split at h
  · rename_i c
    simp only [Bool.and_eq_true, decide_eq_true_eq] at c
    cases h
    exact ⟨c.1.1, c.1.2, c.2, rfl⟩
  · cases h
theorem ok_eq : R2ok G (gCmp .eq) (rEq2 G.K) := by
  intro M S H x y a b d Q r ra rb h k
  have h' : (eqD a b).map D.bl = some d := h
  obtain ⟨c, hc, e⟩ := Option.map_eq_some_iff.mp h'
  obtain ⟨h1, h2, h3, h4⟩ := eqD_some hc
  refine ⟨toPy a, toPy b, dp_of r.sub h1 ra, dp_of r.sub h2 rb, lay_of h1 ra, lay_of h2 rb, by rw [dep_py a h1, dep_py b h2]; exact h3, ?_⟩
  rw [eqv_py a b h1 h2, ← h4]
  exact k _ M H r .refl (by rw [← e]; rfl)
theorem ok_ne : R2ok G (gCmp .ne) (rNe2 G.K) := by
  intro M S H x y a b d Q r ra rb h k
  have h' : ((eqD a b).map (!·)).map D.bl = some d := h
  obtain ⟨c, hc, e⟩ := Option.map_eq_some_iff.mp h'
  obtain ⟨c', hc', e'⟩ := Option.map_eq_some_iff.mp hc
  obtain ⟨h1, h2, h3, h4⟩ := eqD_some hc'
  refine ⟨toPy a, toPy b, dp_of r.sub h1 ra, dp_of r.sub h2 rb, lay_of h1 ra, lay_of h2 rb, by rw [dep_py a h1, dep_py b h2]; exact h3, ?_⟩
  rw [eqv_py a b h1 h2, ← h4]
  exact k _ M H r .refl (by rw [← e, ← e']; rfl)
theorem in_get {M : Mp} {S : Store} {H : Hp} {y : V} {b : D} {l : List D} (r : Rel G M S H) (rb : Rp G M S.length b y) (hl : D.dataL l = true) (hb : b = .lst l ∨ b = .tup l) :
    (Dp G.K H y (.list (toPyL l)) ∨ Dp G.K H y (.tuple (toPyL l))) ∧ PyData.canLayAll0 (toPyL l) = true := by
  rcases hb with e | e
  · subst e
    obtain ⟨p, vs, e, s, t⟩ := id rb
    exact ⟨.inl (dp_of r.sub (d := .lst l) hl rb), lay_ofL hl t⟩
  · subst e
    obtain ⟨p, vs, e, s, t⟩ := id rb
    exact ⟨.inr (dp_of r.sub (d := .tup l) hl rb), lay_ofL hl t⟩
theorem ok_in : R2ok G (gCmp .isIn) (rInX G.K) := by
  intro M S H x y a b d Q r ra rb h k
  have go : ∀ l, (b = .lst l ∨ b = .tup l) → (inD a l).map D.bl = some d → rInX G.K x y H Q := fun l hb h => by
    obtain ⟨c, hc, e⟩ := Option.map_eq_some_iff.mp h
    obtain ⟨h1, h2, h3, h4⟩ := inD_some hc
    obtain ⟨q1, q2⟩ := in_get r rb h2 hb
    refine ⟨toPy a, toPyL l, dp_of r.sub h1 ra, q1, lay_of h1 ra, q2, by rw [dep_py a h1, dep_pyL l h2]; exact h3, ?_⟩
    rw [any_py a h1 l h2, ← h4]
    exact k _ M H r .refl (by rw [← e]; rfl)
  cases b with
  | lst l => exact go l (.inl rfl) h
  | tup l => exact go l (.inr rfl) h
  | _ => exact nn h
theorem ok_ni : R2ok G (gCmp .notIn) (rNiX G.K) := by
  intro M S H x y a b d Q r ra rb h k
  have go : ∀ l, (b = .lst l ∨ b = .tup l) → ((inD a l).map (!·)).map D.bl = some d → rNiX G.K x y H Q := fun l hb h => by
    obtain ⟨c, hc, e⟩ := Option.map_eq_some_iff.mp h
    obtain ⟨c', hc', e'⟩ := Option.map_eq_some_iff.mp hc
    obtain ⟨h1, h2, h3, h4⟩ := inD_some hc'
    obtain ⟨q1, q2⟩ := in_get r rb h2 hb
    refine ⟨toPy a, toPyL l, dp_of r.sub h1 ra, q1, lay_of h1 ra, q2, by rw [dep_py a h1, dep_pyL l h2]; exact h3, ?_⟩
    rw [any_py a h1 l h2, ← h4]
    exact k _ M H r .refl (by rw [← e, ← e']; rfl)
  cases b with
  | lst l => exact go l (.inl rfl) h
  | tup l => exact go l (.inr rfl) h
  | _ => exact nn h
/-- two ints -/
theorem ok_int {g : Store → D → D → Option D} {C : Int → Int → Prop} {f : Int → Int → V} {fd : Int → Int → D}
    (hg : ∀ S a b d, g S a b = some d → ∃ i j, a = .int i ∧ b = .int j ∧ C i j ∧ d = fd i j) (hf : ∀ i j (M : Mp) (n : Nat), Rp G M n (fd i j) (f i j)) : R2ok G g (rI C f) := by
  intro M S H x y a b d Q r ra rb h k
  obtain ⟨i, j, e1, e2, hc, e3⟩ := hg S a b d h
  subst e1 e2 e3
  exact ⟨i, j, ra, rb, hc, k _ M H r .refl (hf i j M _)⟩
theorem ok_int0 {g : Store → D → D → Option D} {f : Int → Int → V} {fd : Int → Int → D}
    (hg : ∀ S a b d, g S a b = some d → ∃ i j, a = .int i ∧ b = .int j ∧ d = fd i j) (hf : ∀ i j (M : Mp) (n : Nat), Rp G M n (fd i j) (f i j)) : R2ok G g (rI0 f) := by
  intro M S H x y a b d Q r ra rb h k
  obtain ⟨i, j, e1, e2, e3⟩ := hg S a b d h
  subst e1 e2 e3
  exact ⟨i, j, ra, rb, k _ M H r .refl (hf i j M _)⟩
theorem ok_lt : R2ok G (gCmp .lt) (rI0 fun i j => .bl (decide (i < j))) := ok_int0 (fd := fun i j => .bl (decide (i < j))) (fun S a b d h => by
  cases a <;> cases b <;> first | exact nn h | skip
  rename_i i j
  exact ⟨i, j, rfl, rfl, (Option.some.inj h).symm⟩) fun _ _ _ _ => rfl
theorem ok_le : R2ok G (gCmp .le) (rI0 fun i j => .bl (decide (i ≤ j))) := ok_int0 (fd := fun i j => .bl (decide (i ≤ j))) (fun S a b d h => by
  cases a <;> cases b <;> first | exact nn h | skip
  rename_i i j
  exact ⟨i, j, rfl, rfl, (Option.some.inj h).symm⟩) fun _ _ _ _ => rfl
theorem ok_gt : R2ok G (gCmp .gt) (rI0 fun i j => .bl (decide (j < i))) := ok_int0 (fd := fun i j => .bl (decide (j < i))) (fun S a b d h => by
  cases a <;> cases b <;> first | exact nn h | skip
  rename_i i j
  exact ⟨i, j, rfl, rfl, (Option.some.inj h).symm⟩) fun _ _ _ _ => rfl
theorem ok_ge : R2ok G (gCmp .ge) (rI0 fun i j => .bl (decide (j ≤ i))) := ok_int0 (fd := fun i j => .bl (decide (j ≤ i))) (fun S a b d h => by
  cases a <;> cases b <;> first | exact nn h | skip
  rename_i i j
  exact ⟨i, j, rfl, rfl, (Option.some.inj h).symm⟩) fun _ _ _ _ => rfl
theorem non_iff {M : Mp} {n : Nat} {a : D} {x : V} (h : Rp G M n a x) : decide (x = V.non) = isNon a := by
  cases a with
  | non => cases h; rfl
  | bl _ => cases h; rfl
  | int _ => cases h; rfl
  | str _ => obtain ⟨e, _⟩ := h; rw [e]; rfl
  | tup _ => obtain ⟨p, vs, e, _⟩ := h; rw [e]; rfl
  | lst _ => obtain ⟨p, vs, e, _⟩ := h; rw [e]; rfl
  | scr _ => obtain ⟨p, vs, e, _⟩ := h; rw [e]; rfl
  | obj _ _ => obtain ⟨p, dx, vs, e, _⟩ := h; rw [e]; rfl
  | ref _ => obtain ⟨_, e⟩ := h; rw [e]; rfl
  | dic => obtain ⟨p, e, _⟩ := h; rw [e]; rfl
def rIs2 : R2 := fun x y H Q => (y = .non ∧ Q (.bl (decide (x = .non))) H) ∨ rIsB x y H Q
def rNis2 : R2 := fun x y H Q => (y = .non ∧ Q (.bl (!decide (x = .non))) H) ∨ rNotB x y H Q
theorem ok_is : R2ok G (gCmp .is) rIs2 := by
  intro M S H x y a b d Q r ra rb h k
  have h' : (isD a b).map D.bl = some d := h
  cases b with
  | non =>
    cases rb
    refine .inl ⟨rfl, ?_⟩
    rw [non_iff ra]
    exact k _ M H r .refl (by rw [← Option.some.inj h']; rfl)
  | bl j =>
    cases a with
    | bl i =>
      cases rb
      cases ra
      refine .inr ⟨i, j, rfl, rfl, ?_⟩
      exact k _ M H r .refl (by
        have e : D.bl (i == j) = d := Option.some.inj h'
        rw [← e]
        show V.bl (decide (i = j)) = V.bl (i == j)
        cases i <;> cases j <;> rfl)
    | _ => exact nn h'
  | _ => cases a <;> exact nn h'
theorem ok_nis : R2ok G (gCmp .isNot) rNis2 := by
  intro M S H x y a b d Q r ra rb h k
  have h' : ((isD a b).map (!·)).map D.bl = some d := h
  cases b with
  | non =>
    cases rb
    refine .inl ⟨rfl, ?_⟩
    rw [non_iff ra]
    exact k _ M H r .refl (by rw [← Option.some.inj h']; rfl)
  | bl j =>
    cases a with
    | bl i =>
      cases rb
      cases ra
      refine .inr ⟨i, j, rfl, rfl, ?_⟩
      exact k _ M H r .refl (by
        have e : D.bl (!(i == j)) = d := Option.some.inj h'
        rw [← e]
        show V.bl (!decide (i = j)) = V.bl (!(i == j))
        cases i <;> cases j <;> rfl)
    | _ => exact nn h'
  | _ => cases a <;> exact nn h'
/-- the comparison rule of each operator -/
def copB : COp → CmpOp → Bool
  | .eq, .Eq => true | .ne, .NotEq => true | .lt, .Lt => true | .le, .LtE => true | .gt, .Gt => true | .ge, .GtE => true
  | .is, .Is => true | .isNot, .IsNot => true | .isIn, .In => true | .notIn, .NotIn => true
  | _, _ => false
theorem cop_rule (hu : X.A.units + 65 < cLine) (hK : X.K = G.K) {op : COp} {o : CmpOp} (h : copB op o = true) : ∃ r, OpR X (compareOp o) r ∧ R2ok G (gCmp op) r := by
  cases op <;> cases o <;> first | exact nb h | skip
  · exact ⟨_, op_eq2 (by omega), by rw [hK]; exact ok_eq⟩
  · exact ⟨_, op_ne2 (by omega), by rw [hK]; exact ok_ne⟩
  · exact ⟨_, op_lt, ok_lt⟩
  · exact ⟨_, op_le, ok_le⟩
  · exact ⟨_, op_gt, ok_gt⟩
  · exact ⟨_, op_ge, ok_ge⟩
  · exact ⟨_, OpR.or op_isN op_isBl, ok_is⟩
  · exact ⟨_, OpR.or op_notN op_notBl, ok_nis⟩
  · exact ⟨_, op_inX hu, by rw [hK]; exact ok_in⟩
  · exact ⟨_, op_niX hu, by rw [hK]; exact ok_ni⟩
end

/-! ### arithmetic -/
section
variable {X : Cx} {G : Gx}
def gBin (op : BOp) : Store → D → D → Option D := fun _ a b => binD op a b
theorem szOk_le {n : Nat} (h : szOk n = true) : n ≤ sizeLine := by
  have h' : n ≤ 16777216 := of_decide_eq_true h
  rw [sizeLine_eq]
  exact h'
theorem strOk_app {a b : Str} (ha : PyData.strOk a = true) (hb : PyData.strOk b = true) : PyData.strOk (a ++ b) = true := by
  unfold PyData.strOk at ha hb ⊢
  show (a.cps ++ b.cps).all _ = true
  rw [Array.all_append, ha, hb] <;> rfl
theorem str_app_len (a b : Str) : (a ++ b).length = a.length + b.length := by
  show (a.cps ++ b.cps).size = _
  rw [Array.size_append] <;> rfl
def rAdd4 (K : PySem.W.Frag) : R2 := fun x y H Q => (rI0 fun i j => .int (i + j)) x y H Q ∨ (∃ i j, x = V.str i ∧ y = V.str j ∧ i.length + j.length ≤ sizeLine ∧ Q (.str (i ++ j)) H) ∨ rCatA K x y H Q ∨ rCat x y H Q
theorem op_add4 : OpR X (binaryOp .Add) (rAdd4 X.K) := OpR.or op_add (OpR.or op_add_str (OpR.or op_catA op_cat))
theorem ok_add : R2ok G (gBin .add) (rAdd4 G.K) := by
  intro M S H x y a b d Q r ra rb h k
  have h' : binD .add a b = some d := h
  cases a <;> cases b <;> first | exact nn h' | skip
  · rename_i i j
    cases ra
    cases rb
    refine .inl ⟨i, j, rfl, rfl, k _ M H r .refl ?_⟩
    rw [← Option.some.inj h']
    rfl
  · rename_i i j
    obtain ⟨e1, o1, l1⟩ := ra
    obtain ⟨e2, o2, l2⟩ := rb
    have h2 : (if szOk (i.length + j.length) then some (D.str (i ++ j)) else none) = some d := h'
    split at h2
    · rename_i c
      refine .inr (.inl ⟨i, j, e1, e2, szOk_le c, k _ M H r .refl ?_⟩)
      rw [← Option.some.inj h2]
      exact ⟨rfl, strOk_app o1 o2, by rw [str_app_len]; exact of_decide_eq_true c⟩
    · cases h2
  · rename_i l l'
    obtain ⟨p, vs, e1, s1, t1⟩ := ra
    obtain ⟨q, us, e2, s2, t2⟩ := rb
    have h2 : (if szOk (l.length + l'.length) then some (D.tup (l ++ l')) else none) = some d := h'
    split at h2
    · rename_i c
      have ed := Option.some.inj h2
      have hl1 := t1.length
      have hl2 := t2.length
      refine .inr (.inr (.inl ⟨p, q, vs, us, e1, e2, sqT_up r.sub s1, sqT_up r.sub s2, by rw [← hl1, ← hl2]; exact szOk_le c, fun z => ?_, fun _ z => ?_, fun _ _ w hw => ?_⟩))
      · refine k _ M H r .refl ?_
        subst z
        have el : l = [] := List.length_eq_zero_iff.mp (by rw [hl1] <;> rfl)
        rw [← ed, el]
        exact ⟨q, us, rfl, s2, t2⟩
      · refine k _ M H r .refl ?_
        subst z
        have el : l' = [] := List.length_eq_zero_iff.mp (by rw [hl2] <;> rfl)
        rw [← ed, el, List.append_nil]
        exact ⟨p, vs, rfl, s1, t1⟩
      · obtain ⟨r2, x2⟩ := rel_fin (o := .tup (vs ++ us)) r hw
        refine k _ _ _ r2 x2 ?_
        rw [← ed]
        exact ⟨w, vs ++ us, rfl, .inl (.inl upd_same), (t1.append t2).up x2.up⟩
    · cases h2
  · rename_i l l'
    obtain ⟨p, vs, e1, s1, t1⟩ := ra
    obtain ⟨q, us, e2, s2, t2⟩ := rb
    have h2 : (if szOk (l.length + l'.length) then some (D.lst (l ++ l')) else none) = some d := h'
    split at h2
    · rename_i c
      have ed := Option.some.inj h2
      have hl1 := t1.length
      have hl2 := t2.length
      refine .inr (.inr (.inr ⟨p, q, vs, us, e1, e2, r.sub _ _ s1, r.sub _ _ s2, by rw [← hl1, ← hl2]; exact szOk_le c, fun w hw => ?_⟩))
      obtain ⟨r2, x2⟩ := rel_fin (o := .lst (vs ++ us)) r hw
      refine k _ _ _ r2 x2 ?_
      rw [← ed]
      exact ⟨w, vs ++ us, rfl, upd_same, (t1.append t2).up x2.up⟩
    · cases h2
theorem ok_sub : R2ok G (gBin .sub) (rI0 fun i j => .int (i - j)) := ok_int0 (fd := fun i j => .int (i - j)) (fun S a b d h => by
  cases a <;> cases b <;> first | exact nn h | skip
  rename_i i j
  exact ⟨i, j, rfl, rfl, (Option.some.inj h).symm⟩) fun _ _ _ _ => rfl
theorem ok_mul : R2ok G (gBin .mul) (rI CMul fun i j => .int (i * j)) := ok_int (fd := fun i j => .int (i * j)) (fun S a b d h => by
  cases a <;> cases b <;> first | exact nn h | skip
  rename_i i j
  have h2 : (if (decide (-(2 ^ 64) < i) && decide (i < 2 ^ 64)) || (decide (-(2 ^ 64) < j) && decide (j < 2 ^ 64)) then some (D.int (i * j)) else none) = some d := h
  split at h2
  · rename_i c
    simp only [Bool.or_eq_true, Bool.and_eq_true, decide_eq_true_eq] at c
    exact ⟨i, j, rfl, rfl, c, (Option.some.inj h2).symm⟩
  · cases h2) fun _ _ _ _ => rfl
theorem ok_fdiv : R2ok G (gBin .fdiv) (rI CDiv fun i j => .int (i / j)) := ok_int (fd := fun i j => .int (i / j)) (fun S a b d h => by
  cases a <;> cases b <;> first | exact nn h | skip
  rename_i i j
  have h2 : (if decide (0 < j) && decide (j < 1073741824) then some (D.int (i / j)) else none) = some d := h
  split at h2
  · rename_i c
    simp only [Bool.and_eq_true, decide_eq_true_eq] at c
    exact ⟨i, j, rfl, rfl, c, (Option.some.inj h2).symm⟩
  · cases h2) fun _ _ _ _ => rfl
theorem ok_mod : R2ok G (gBin .mod) (rI (fun _ j => 0 < j) fun i j => .int (i % j)) := ok_int (fd := fun i j => .int (i % j)) (fun S a b d h => by
  cases a <;> cases b <;> first | exact nn h | skip
  rename_i i j
  have h2 : (if decide (0 < j) then some (D.int (i % j)) else none) = some d := h
  split at h2
  · rename_i c
    exact ⟨i, j, rfl, rfl, of_decide_eq_true c, (Option.some.inj h2).symm⟩
  · cases h2) fun _ _ _ _ => rfl
theorem ok_pow : R2ok G (gBin .pow) (rI CPow fun i j => .int (i ^ j.toNat)) := ok_int (fd := fun i j => .int (i ^ j.toNat)) (fun S a b d h => by
  cases a <;> cases b <;> first | exact nn h | skip
  rename_i i j
  have h2 : (if decide (0 ≤ j) && decide (j ≤ 1000000) && decide (i.natAbs < 2 ^ 64) then some (D.int (i ^ j.toNat)) else none) = some d := h
  split at h2
  · rename_i c
    simp only [Bool.and_eq_true, decide_eq_true_eq] at c
    exact ⟨i, j, rfl, rfl, ⟨c.1.1, c.1.2, c.2⟩, (Option.some.inj h2).symm⟩
  · cases h2) fun _ _ _ _ => rfl
theorem ok_shl : R2ok G (gBin .shl) (rI CPow fun i j => .int (i * 2 ^ j.toNat)) := ok_int (fd := fun i j => .int (i * 2 ^ j.toNat)) (fun S a b d h => by
  cases a <;> cases b <;> first | exact nn h | skip
  rename_i i j
  have h2 : (if decide (0 ≤ j) && decide (j ≤ 1000000) && decide (i.natAbs < 2 ^ 64) then some (D.int (i * 2 ^ j.toNat)) else none) = some d := h
  split at h2
  · rename_i c
    simp only [Bool.and_eq_true, decide_eq_true_eq] at c
    exact ⟨i, j, rfl, rfl, ⟨c.1.1, c.1.2, c.2⟩, (Option.some.inj h2).symm⟩
  · cases h2) fun _ _ _ _ => rfl
def bopB : BOp → Operator → Bool
  | .add, .Add => true | .sub, .Sub => true | .mul, .Mult => true | .fdiv, .FloorDiv => true | .mod, .Mod => true | .pow, .Pow => true | .shl, .LShift => true
  | _, _ => false
theorem bop_rule (hK : X.K = G.K) {op : BOp} {o : Operator} (h : bopB op o = true) : ∃ r, OpR X (binaryOp o) r ∧ R2ok G (gBin op) r := by
  cases op <;> cases o <;> first | exact nb h | skip
  · exact ⟨_, op_add4, by rw [hK]; exact ok_add⟩
  · exact ⟨_, op_sub, ok_sub⟩
  · exact ⟨_, op_mul, ok_mul⟩
  · exact ⟨_, op_fdiv, ok_fdiv⟩
  · exact ⟨_, op_mod, ok_mod⟩
  · exact ⟨_, op_pow, ok_pow⟩
  · exact ⟨_, op_shl, ok_shl⟩
/-- an item -/
theorem rIx2_ok : R2ok G idxD (rIx G.K) := by
  intro M S H x y a b d Q r ra rb h k
  have h' : idxD S a b = some d := h
  cases b with
  | int i =>
    cases rb
    cases a with
    | tup l =>
      obtain ⟨p, vs, e1, s1, t1⟩ := ra
      obtain ⟨v, h1, h2⟩ := t1.ati (show atI l i = some d from h')
      exact .inr (.inl ⟨p, vs, i, v, e1, rfl, sqT_up r.sub s1, h1, k _ M H r .refl h2⟩)
    | lst l =>
      obtain ⟨p, vs, e1, s1, t1⟩ := ra
      obtain ⟨v, h1, h2⟩ := t1.ati (show atI l i = some d from h')
      exact .inl ⟨p, vs, i, v, e1, rfl, SqL.of (r.sub _ _ s1), h1, k _ M H r .refl h2⟩
    | str z =>
      obtain ⟨e1, o1, l1⟩ := ra
      obtain ⟨c, hc, e⟩ := Option.map_eq_some_iff.mp (show (atI z.cps.toList i).map (fun c => D.str ⟨#[c]⟩) = some d from h')
      refine .inr (.inr ⟨z, i, c, e1, rfl, by rw [sizeLine_eq]; exact l1, hc, k _ M H r .refl ?_⟩)
      rw [← e]
      refine ⟨rfl, ?_, by show 1 ≤ 16777216; decide⟩
      have hm : c ∈ z.cps.toList := by
        unfold atI at hc
        obtain ⟨j, _, hj⟩ := Option.bind_eq_some_iff.mp hc
        exact List.mem_of_getElem? hj
      unfold PyData.strOk at o1 ⊢
      rw [← Array.all_toList, List.all_eq_true] at o1
      have := o1 c hm
      simpa using this
    | ref a =>
      have h2 : (match S[a]? with | some (.lst l) => atI l i | _ => none) = some d := h'
      split at h2
      · rename_i l hl
        obtain ⟨_, e1⟩ := ra
        obtain ⟨⟨vs, e2, t⟩, _⟩ := r.obj a _ hl
        obtain ⟨v, h1, h2⟩ := t.ati h2
        exact .inl ⟨M.m a, vs, i, v, e1, rfl, SqL.of e2, h1, k _ M H r .refl h2⟩
      · cases h2
    | _ => exact nn h'
  | _ => cases a <;> exact nn h'
end
end HN

/-! The expressions of HN, one rule each. -/
namespace HN
open PySem L2

/-! ### readings -/
def tEf (G : Gx) (f : Env → Store → Option (D × Store)) : TE := fun σ H Q => ∃ (M : Mp) (S : Store) (ρ : Env) (d : D) (S' : Store), Rel G M S H ∧ EnvR G M S H σ ρ ∧ f ρ S = some (d, S') ∧
  ∀ v M' H', Rel G M' S' H' → Ext M S H M' S' H' → Rp G M' S'.length d v → Q v H'
def tTf (G : Gx) (f : Env → Store → Option (Bool × Store)) : TT := fun σ H Q => ∃ (M : Mp) (S : Store) (ρ : Env) (d : Bool) (S' : Store), Rel G M S H ∧ EnvR G M S H σ ρ ∧ f ρ S = some (d, S') ∧
  ∀ M' H', Rel G M' S' H' → Ext M S H M' S' H' → Q d H'
def tAf (G : Gx) (f : Env → Store → Option (List D × Store)) : TA := fun σ H Q => ∃ (M : Mp) (S : Store) (ρ : Env) (d : List D) (S' : Store), Rel G M S H ∧ EnvR G M S H σ ρ ∧ f ρ S = some (d, S') ∧
  ∀ vs M' H', Rel G M' S' H' → Ext M S H M' S' H' → RpL G M' S'.length d vs → Q vs H'
/-- a new list, nobody's -/
def tLf (G : Gx) (f : Env → Store → Option (List D × Store)) : TE := fun σ H Q => ∃ (M : Mp) (S : Store) (ρ : Env) (d : List D) (S' : Store), Rel G M S H ∧ EnvR G M S H σ ρ ∧ f ρ S = some (d, S') ∧
  ∀ p vs M' H', Rel G M' S' H' → Ext M S H M' S' H' → RpL G M' S'.length d vs → H' p = some (.lst vs) → H p = none → M'.F p = none → (∀ a, a < S'.length → M'.m a ≠ p) → Q (.ref p) H'
section
variable {G : Gx} {M : Mp} {S S' : Store} {ρ : Env} {σ : L2.St} {H : Hp}
theorem tEf.mk {f : Env → Store → Option (D × Store)} {d : D} {Q : VK} (r : Rel G M S H) (e : EnvR G M S H σ ρ) (h : f ρ S = some (d, S')) (k : ∀ v M' H', Rel G M' S' H' → Ext M S H M' S' H' → Rp G M' S'.length d v → Q v H') : tEf G f σ H Q :=
  ⟨M, S, ρ, d, S', r, e, h, k⟩
theorem tTf.mk {f : Env → Store → Option (Bool × Store)} {d : Bool} {Q : Bool → Hp → Prop} (r : Rel G M S H) (e : EnvR G M S H σ ρ) (h : f ρ S = some (d, S')) (k : ∀ M' H', Rel G M' S' H' → Ext M S H M' S' H' → Q d H') : tTf G f σ H Q :=
  ⟨M, S, ρ, d, S', r, e, h, k⟩
theorem tAf.mk {f : Env → Store → Option (List D × Store)} {d : List D} {Q : List V → Hp → Prop} (r : Rel G M S H) (e : EnvR G M S H σ ρ) (h : f ρ S = some (d, S')) (k : ∀ vs M' H', Rel G M' S' H' → Ext M S H M' S' H' → RpL G M' S'.length d vs → Q vs H') : tAf G f σ H Q :=
  ⟨M, S, ρ, d, S', r, e, h, k⟩
/-- what stood stands -/
theorem Ext.stays {M' : Mp} {H' : Hp} {p : Addr} {o : HO} (r : Rel G M S H) (r' : Rel G M' S' H') (x : Ext M S H M' S' H') (h : H p = some o) : ∃ u, H' p = some u := by
  by_cases h1 : M.F p = none
  · by_cases h2 : ∃ a, a < S.length ∧ M.m a = p
    · obtain ⟨a, ha, e⟩ := h2
      have ha' : a < S'.length := Nat.lt_of_lt_of_le ha x.up.le
      obtain ⟨q, _⟩ := r'.obj a _ (List.getElem?_eq_getElem ha')
      rw [x.up.m a ha, e] at q
      cases hq : S'[a] with
      | lst l => rw [hq] at q; obtain ⟨vs, e, _⟩ := q; exact ⟨_, e⟩
      | ins c l => rw [hq] at q; obtain ⟨dx, vs, e, _⟩ := q; exact ⟨_, e⟩
    · exact ⟨o, (x.fgn p o h h1 fun a ha e => h2 ⟨a, ha, e⟩).1⟩
  · cases q : M.F p with
    | none => exact absurd q h1
    | some u => exact ⟨u, r'.sub p u (x.up.F p u q)⟩
theorem Ext.fresh {M' : Mp} {H' : Hp} {p : Addr} (r : Rel G M S H) (r' : Rel G M' S' H') (x : Ext M S H M' S' H') (h : H' p = none) : H p = none := by
  cases q : H p with
  | none => rfl
  | some o =>
    obtain ⟨u, e⟩ := x.stays r r' q
    rw [e] at h
    cases h
end

section
variable {X : Cx} {G : Gx}
/-! ### names and constants -/
theorem s_var {i : Nat} {x : Str} {pos : Pos} (hN : X.N[i]? = some x) (hv : Vis X.env.scope x) (hd : (x == ("__debug__" : Str)) = false) (hcd : (x == ("__classdict__" : Str)) = false) :
    PE X (.Name x pos) (tEf G fun ρ S => (getV ρ i).map fun d => (d, S)) := by
  refine pe_weak (pe_var hN hv hd hcd) fun σ H Q h => ?_
  obtain ⟨M, S, ρ, d, S', r, e, h, k⟩ := h
  obtain ⟨d', hd', e'⟩ := Option.map_eq_some_iff.mp h
  cases e'
  obtain ⟨v, h1, h2⟩ := e.getV hd'
  exact ⟨v, h1, k v M H r .refl h2⟩
theorem s_const {e : Expr} {v : V} {d : D} (he : PE X e (tC v)) (hr : ∀ (M : Mp) (n : Nat), Rp G M n d v) : PE X e (tEf G fun _ S => some (d, S)) := by
  refine pe_weak he fun σ H Q h => ?_
  obtain ⟨M, S, ρ, d', S', r, e, h, k⟩ := h
  cases h
  exact k v M H r .refl (hr M _)
theorem s_glob {x : Str} {pos : Pos} {g : Option D} (hg : Gl X x) (hd : (x == ("__debug__" : Str)) = false) (hm : ∀ d, g = some d → ∃ v u, X.mg x = some u ∧ RelV v u ∧ ∀ (M : Mp) (n : Nat), Rp G M n d v) :
    PE X (.Name x pos) (tEf G fun _ S => g.map fun d => (d, S)) := by
  cases g with
  | none =>
    refine ⟨fun pins s σ H Q I h => ?_⟩
    obtain ⟨M, S, ρ, d', S', r, e, h, k⟩ := h
    cases h
  | some d =>
    obtain ⟨v, u, h1, h2, h3⟩ := hm d rfl
    exact s_const (pe_glob hg h1 h2 hd) h3

/-! ### operators -/
/-- two parts, then a rule on their values -/
theorem op2_read {r : R2} {g : Store → D → D → Option D} {fa fb : Env → Store → Option (D × Store)} {σ : L2.St} {H : Hp} {Q : VK} (ok : R2ok G g r)
    (h : tEf G (fun ρ S => (fa ρ S).bind fun x => (fb ρ x.2).bind fun y => (g y.2 x.1 y.1).map fun d => (d, y.2)) σ H Q) : tOp r (tEf G fa) (tEf G fb) σ H Q := by
  obtain ⟨M, S, ρ, d, S', rl, e, h, k⟩ := h
  obtain ⟨x, hx, h⟩ := Option.bind_eq_some_iff.mp h
  obtain ⟨y, hy, h⟩ := Option.bind_eq_some_iff.mp h
  obtain ⟨z, hz, h⟩ := Option.map_eq_some_iff.mp h
  cases h
  refine tEf.mk rl e hx fun v M1 H1 r1 x1 p1 => tEf.mk r1 (e.ext x1) hy fun w M2 H2 r2 x2 p2 => ?_
  exact ok M2 y.2 H2 v w x.1 y.1 d Q r2 (p1.up x2.up) p2 hz fun u M3 H3 r3 x3 p3 => k u M3 H3 r3 ((x1.trans x2).trans x3) p3
theorem s_bin {op : BOp} {o : Operator} {a b : Expr} {fa fb : Env → Store → Option (D × Store)} {pos : Pos} (hK : X.K = G.K) (ho : bopB op o = true) (ha : PE X a (tEf G fa)) (hb : PE X b (tEf G fb)) :
    PE X (.BinOp a o b pos) (tEf G fun ρ S => (fa ρ S).bind fun x => (fb ρ x.2).bind fun y => (binD op x.1 y.1).map fun d => (d, y.2)) := by
  obtain ⟨r, h1, h2⟩ := bop_rule hK ho
  exact pe_weak (pe_op h1 ha hb) fun σ H Q h => op2_read h2 h
theorem s_neg {a : Expr} {fa : Env → Store → Option (D × Store)} {pos : Pos} (ha : PE X a (tEf G fa)) :
    PE X (.UnaryOp .USub a pos) (tEf G fun ρ S => (fa ρ S).bind fun x => match x with | (.int i, S1) => some (.int (-i), S1) | _ => none) := by
  refine pe_weak (pe_un un_neg ha) fun σ H Q h => ?_
  obtain ⟨M, S, ρ, d, S', rl, e, h, k⟩ := h
  obtain ⟨x, hx, h⟩ := Option.bind_eq_some_iff.mp h
  obtain ⟨x1, x2⟩ := x
  cases x1 <;> first | exact nn h | skip
  rename_i i
  have h : some (D.int (-i), x2) = some (d, S') := h
  cases h
  exact tEf.mk rl e hx fun v M1 H1 r1 q1 p1 => ⟨i, p1, k _ M1 H1 r1 q1 rfl⟩
theorem cmp_read {op : COp} {r : R2} {fa fb : Env → Store → Option (D × Store)} {σ : L2.St} {H : Hp} {Q : VK} (ok : R2ok G (gCmp op) r)
    (h : tEf G (fun ρ S => (fa ρ S).bind fun x => (fb ρ x.2).bind fun y => (cmpD op x.1 y.1).map fun d => (.bl d, y.2)) σ H Q) : tOp r (tEf G fa) (tEf G fb) σ H Q := by
  refine op2_read ok ?_
  obtain ⟨M, S, ρ, d, S', rl, e, h, k⟩ := h
  refine ⟨M, S, ρ, d, S', rl, e, ?_, k⟩
  obtain ⟨x, hx, h⟩ := Option.bind_eq_some_iff.mp h
  obtain ⟨y, hy, h⟩ := Option.bind_eq_some_iff.mp h
  obtain ⟨z, hz, h⟩ := Option.map_eq_some_iff.mp h
  refine Option.bind_eq_some_iff.mpr ⟨x, hx, Option.bind_eq_some_iff.mpr ⟨y, hy, Option.map_eq_some_iff.mpr ⟨.bl z, ?_, h⟩⟩⟩
  show (cmpD op x.1 y.1).map D.bl = some (.bl z)
  rw [hz] <;> rfl
theorem s_cmp {op : COp} {o : CmpOp} {a b : Expr} {fa fb : Env → Store → Option (D × Store)} {pos : Pos} (hu : X.A.units + 65 < cLine) (hK : X.K = G.K) (ho : copB op o = true) (ha : PE X a (tEf G fa)) (hb : PE X b (tEf G fb)) (hm : behindInMarks o b = false) :
    PE X (.Compare a [o] [b] pos) (tEf G fun ρ S => (fa ρ S).bind fun x => (fb ρ x.2).bind fun y => (cmpD op x.1 y.1).map fun d => (.bl d, y.2)) := by
  obtain ⟨r, h1, h2⟩ := cop_rule hu hK ho
  exact pe_weak (pe_cmpR h1 ha hb hm) fun σ H Q h => cmp_read h2 h
theorem t_cmp {op : COp} {o : CmpOp} {a b : Expr} {fa fb : Env → Store → Option (D × Store)} {pos : Pos} (hu : X.A.units + 65 < cLine) (hK : X.K = G.K) (ho : copB op o = true) (ha : PE X a (tEf G fa)) (hb : PE X b (tEf G fb)) (hm : behindInMarks o b = false) :
    PT X (.Compare a [o] [b] pos) (tTf G fun ρ S => (fa ρ S).bind fun x => (fb ρ x.2).bind fun y => (cmpD op x.1 y.1).map fun d => (d, y.2)) := by
  obtain ⟨r, h1, h2⟩ := cop_rule hu hK ho
  refine pt_weak (pt_cmpR h1 ha hb hm) fun σ H Q h => cmp_read h2 ?_
  obtain ⟨M, S, ρ, d, S', rl, e, h, k⟩ := h
  obtain ⟨x, hx, h⟩ := Option.bind_eq_some_iff.mp h
  obtain ⟨y, hy, h⟩ := Option.bind_eq_some_iff.mp h
  obtain ⟨z, hz, h⟩ := Option.map_eq_some_iff.mp h
  cases h
  refine ⟨M, S, ρ, .bl d, y.2, rl, e, Option.bind_eq_some_iff.mpr ⟨x, hx, Option.bind_eq_some_iff.mpr ⟨y, hy, Option.map_eq_some_iff.mpr ⟨d, hz, rfl⟩⟩⟩, fun v M1 H1 r1 x1 p1 => ⟨d, p1, k M1 H1 r1 x1⟩⟩
/-- a op b op' c -/
theorem chain_read {op op' : COp} {r r' : R2} {fa fb fc : Env → Store → Option (D × Store)} {σ : L2.St} {H : Hp} {Q : VK} (ok : R2ok G (gCmp op) r) (ok' : R2ok G (gCmp op') r')
    (h : tEf G (fun ρ S => (fa ρ S).bind fun x => (fb ρ x.2).bind fun y => (cmpD op x.1 y.1).bind fun k => if k then (fc ρ y.2).bind fun z => (cmpD op' y.1 z.1).map fun d => (.bl d, z.2) else some (.bl false, y.2)) σ H Q) :
    tChain r r' (tEf G fa) (tEf G fb) (tEf G fc) σ H Q := by
  obtain ⟨M, S, ρ, d, S', rl, e, h, k⟩ := h
  obtain ⟨x, hx, h⟩ := Option.bind_eq_some_iff.mp h
  obtain ⟨y, hy, h⟩ := Option.bind_eq_some_iff.mp h
  obtain ⟨z, hz, h⟩ := Option.bind_eq_some_iff.mp h
  refine tEf.mk rl e hx fun v M1 H1 r1 x1 p1 => tEf.mk r1 (e.ext x1) hy fun w M2 H2 r2 x2 p2 => ?_
  refine ok M2 y.2 H2 v w x.1 y.1 (.bl z) _ r2 (p1.up x2.up) p2 (by show (cmpD op x.1 y.1).map D.bl = _; rw [hz] <;> rfl) fun u M3 H3 r3 x3 p3 => ⟨z, p3, ?_⟩
  cases z with
  | false =>
    cases h
    exact iteF (k _ M3 H3 r3 ((x1.trans x2).trans x3) rfl)
  | true =>
    obtain ⟨q, hq, h⟩ := Option.bind_eq_some_iff.mp (show ((fc ρ y.2).bind fun z => (cmpD op' y.1 z.1).map fun d => (D.bl d, z.2)) = some (d, S') from h)
    obtain ⟨c, hc, h⟩ := Option.map_eq_some_iff.mp h
    cases h
    refine iteT (tEf.mk r3 (((e.ext x1).ext x2).ext x3) hq fun u2 M4 H4 r4 x4 p4 => ?_)
    exact ok' M4 q.2 H4 w u2 y.1 q.1 (.bl c) Q r4 ((p2.up x3.up).up x4.up) p4 (by show (cmpD op' y.1 q.1).map D.bl = _; rw [hc] <;> rfl) fun u3 M5 H5 r5 x5 p5 => k u3 M5 H5 r5 (((x1.trans x2).trans x3).trans (x4.trans x5)) p5
theorem s_chain {op op' : COp} {o o' : CmpOp} {a b c : Expr} {fa fb fc : Env → Store → Option (D × Store)} {pos : Pos} (hu : X.A.units + 65 < cLine) (hK : X.K = G.K) (ho : copB op o = true) (ho' : copB op' o' = true)
    (ha : PE X a (tEf G fa)) (hb : PE X b (tEf G fb)) (hc : PE X c (tEf G fc)) (hm : lastMarks [o, o'] [b, c] = false) :
    PE X (.Compare a [o, o'] [b, c] pos) (tEf G fun ρ S => (fa ρ S).bind fun x => (fb ρ x.2).bind fun y => (cmpD op x.1 y.1).bind fun k => if k then (fc ρ y.2).bind fun z => (cmpD op' y.1 z.1).map fun d => (.bl d, z.2) else some (.bl false, y.2)) := by
  obtain ⟨r, h1, h2⟩ := cop_rule hu hK ho
  obtain ⟨r', h1', h2'⟩ := cop_rule hu hK ho'
  exact pe_weak (pe_chain h1 h1' ha hb hc hm) fun σ H Q h => chain_read h2 h2' h
theorem t_chain {op op' : COp} {o o' : CmpOp} {a b c : Expr} {fa fb fc : Env → Store → Option (D × Store)} {pos : Pos} (hu : X.A.units + 65 < cLine) (hK : X.K = G.K) (ho : copB op o = true) (ho' : copB op' o' = true)
    (ha : PE X a (tEf G fa)) (hb : PE X b (tEf G fb)) (hc : PE X c (tEf G fc)) (hm : lastMarks [o, o'] [b, c] = false) :
    PT X (.Compare a [o, o'] [b, c] pos) (tTf G fun ρ S => (fa ρ S).bind fun x => (fb ρ x.2).bind fun y => (cmpD op x.1 y.1).bind fun k => if k then (fc ρ y.2).bind fun z => (cmpD op' y.1 z.1).map fun d => (d, z.2) else some (false, y.2)) := by
  obtain ⟨r, h1, h2⟩ := cop_rule hu hK ho
  obtain ⟨r', h1', h2'⟩ := cop_rule hu hK ho'
  refine pt_weak (pt_chain h1 h1' ha hb hc hm) fun σ H Q h => chain_read h2 h2' ?_
  obtain ⟨M, S, ρ, d, S', rl, e, h, k⟩ := h
  refine ⟨M, S, ρ, .bl d, S', rl, e, ?_, fun v M1 H1 r1 x1 p1 => ⟨d, p1, k M1 H1 r1 x1⟩⟩
  obtain ⟨x, hx, h⟩ := Option.bind_eq_some_iff.mp h
  obtain ⟨y, hy, h⟩ := Option.bind_eq_some_iff.mp h
  obtain ⟨z, hz, h⟩ := Option.bind_eq_some_iff.mp h
  refine Option.bind_eq_some_iff.mpr ⟨x, hx, Option.bind_eq_some_iff.mpr ⟨y, hy, Option.bind_eq_some_iff.mpr ⟨z, hz, ?_⟩⟩⟩
  cases z with
  | false => cases h; rfl
  | true =>
    obtain ⟨q, hq, h⟩ := Option.bind_eq_some_iff.mp (show ((fc ρ y.2).bind fun z => (cmpD op' y.1 z.1).map fun d => (d, z.2)) = some (d, S') from h)
    obtain ⟨c, hc, h⟩ := Option.map_eq_some_iff.mp h
    cases h
    show ((fc ρ y.2).bind fun z => (cmpD op' y.1 z.1).map fun d => (D.bl d, z.2)) = _
    rw [hq]
    show (cmpD op' y.1 q.1).map (fun d => (D.bl d, q.2)) = _
    rw [hc] <;> rfl

/-! ### not, and, or, a choice -/
theorem t_not {a : Expr} {fa : Env → Store → Option (Bool × Store)} {pos : Pos} (ha : PT X a (tTf G fa)) : PT X (.UnaryOp .Not a pos) (tTf G fun ρ S => (fa ρ S).map fun x => (!x.1, x.2)) := by
  refine pt_weak (pt_not ha) fun σ H Q h => ?_
  obtain ⟨M, S, ρ, d, S', rl, e, h, k⟩ := h
  obtain ⟨x, hx, h⟩ := Option.map_eq_some_iff.mp h
  cases h
  exact tTf.mk rl e hx k
theorem s_not {a : Expr} {fa : Env → Store → Option (D × Store)} {pos : Pos} (ha : PE X a (tEf G fa)) : PE X (.UnaryOp .Not a pos) (tEf G fun ρ S => (fa ρ S).bind fun x => match x with | (.bl b, S1) => some (.bl (!b), S1) | _ => none) := by
  refine pe_weak (pe_not ha) fun σ H Q h => ?_
  obtain ⟨M, S, ρ, d, S', rl, e, h, k⟩ := h
  obtain ⟨⟨x1, x2⟩, hx, h2⟩ := Option.bind_eq_some_iff.mp h
  clear h
  cases x1 with
  | bl b =>
    have h := Option.some.inj (show some (D.bl (!b), x2) = some (d, S') from h2)
    cases h
    exact tEf.mk rl e hx fun v M1 H1 r1 q1 p1 => ⟨b, p1, k _ M1 H1 r1 q1 rfl⟩
  | _ => exact nn h2
theorem s_ite {c a b : Expr} {fc : Env → Store → Option (Bool × Store)} {fa fb : Env → Store → Option (D × Store)} {pos : Pos} (hc : PT X c (tTf G fc)) (ha : PE X a (tEf G fa)) (hb : PE X b (tEf G fb)) :
    PE X (.IfExp c a b pos) (tEf G fun ρ S => (fc ρ S).bind fun x => if x.1 then fa ρ x.2 else fb ρ x.2) := by
  refine pe_weak (pe_ifExp hc ha hb) fun σ H Q h => ?_
  obtain ⟨M, S, ρ, d, S', rl, e, h, k⟩ := h
  obtain ⟨x, hx, h⟩ := Option.bind_eq_some_iff.mp h
  obtain ⟨b, S1⟩ := x
  refine tTf.mk rl e hx fun M1 H1 r1 x1 => ?_
  cases b with
  | true => exact iteT (tEf.mk r1 (e.ext x1) (show fa ρ S1 = some (d, S') from h) fun v M2 H2 r2 x2 p2 => k v M2 H2 r2 (x1.trans x2) p2)
  | false => exact iteF (tEf.mk r1 (e.ext x1) (show fb ρ S1 = some (d, S') from h) fun v M2 H2 r2 x2 p2 => k v M2 H2 r2 (x1.trans x2) p2)
theorem s_and {a b : Expr} {rest : List Expr} {fa fb : Env → Store → Option (D × Store)} {pos : Pos} (ha : PE X a (tEf G fa)) (hb : PE X (.BoolOp .And (b :: rest) pos) (tEf G fb)) :
    PE X (.BoolOp .And (a :: b :: rest) pos) (tEf G fun ρ S => (fa ρ S).bind fun x => match x with | (.bl true, S1) => fb ρ S1 | (.bl false, S1) => some (.bl false, S1) | _ => none) := by
  refine pe_weak (pe_and ha hb) fun σ H Q h => ?_
  obtain ⟨M, S, ρ, d, S', rl, e, h, k⟩ := h
  obtain ⟨x, hx, h⟩ := Option.bind_eq_some_iff.mp h
  obtain ⟨x1, x2⟩ := x
  cases x1 <;> first | exact nn h | skip
  rename_i c
  refine tEf.mk rl e hx fun v M1 H1 r1 q1 p1 => ⟨c, p1, ?_⟩
  cases c with
  | true => exact iteT (tEf.mk r1 (e.ext q1) (show fb ρ x2 = some (d, S') from h) fun v M2 H2 r2 q2 p2 => k v M2 H2 r2 (q1.trans q2) p2)
  | false =>
    have h : some (D.bl false, x2) = some (d, S') := h
    cases h
    exact iteF (k _ M1 H1 r1 q1 rfl)
theorem s_or {a b : Expr} {rest : List Expr} {fa fb : Env → Store → Option (D × Store)} {pos : Pos} (ha : PE X a (tEf G fa)) (hb : PE X (.BoolOp .Or (b :: rest) pos) (tEf G fb)) :
    PE X (.BoolOp .Or (a :: b :: rest) pos) (tEf G fun ρ S => (fa ρ S).bind fun x => match x with | (.bl false, S1) => fb ρ S1 | (.bl true, S1) => some (.bl true, S1) | _ => none) := by
  refine pe_weak (pe_or ha hb) fun σ H Q h => ?_
  obtain ⟨M, S, ρ, d, S', rl, e, h, k⟩ := h
  obtain ⟨x, hx, h⟩ := Option.bind_eq_some_iff.mp h
  obtain ⟨x1, x2⟩ := x
  cases x1 <;> first | exact nn h | skip
  rename_i c
  refine tEf.mk rl e hx fun v M1 H1 r1 q1 p1 => ⟨c, p1, ?_⟩
  cases c with
  | false => exact iteF (tEf.mk r1 (e.ext q1) (show fb ρ x2 = some (d, S') from h) fun v M2 H2 r2 q2 p2 => k v M2 H2 r2 (q1.trans q2) p2)
  | true =>
    have h : some (D.bl true, x2) = some (d, S') := h
    cases h
    exact iteT (k _ M1 H1 r1 q1 rfl)
theorem w_and {a b : Expr} {rest : List Expr} {fa fb : Env → Store → Option (Bool × Store)} {pos : Pos} (ha : PT X a (tTf G fa)) (hb : PW X (.BoolOp .And (b :: rest) pos) (tTf G fb)) :
    PW X (.BoolOp .And (a :: b :: rest) pos) (tTf G fun ρ S => (fa ρ S).bind fun x => if x.1 then fb ρ x.2 else some (false, x.2)) := by
  refine pw_weak (pw_and ha hb) fun σ H Q h => ?_
  obtain ⟨M, S, ρ, d, S', rl, e, h, k⟩ := h
  obtain ⟨x, hx, h⟩ := Option.bind_eq_some_iff.mp h
  obtain ⟨c, x2⟩ := x
  refine tTf.mk rl e hx fun M1 H1 r1 q1 => ?_
  cases c with
  | true => exact iteT (tTf.mk r1 (e.ext q1) (show fb ρ x2 = some (d, S') from h) fun M2 H2 r2 q2 => k M2 H2 r2 (q1.trans q2))
  | false =>
    have h : some (false, x2) = some (d, S') := h
    cases h
    exact iteF (k M1 H1 r1 q1)
theorem w_or {a b : Expr} {rest : List Expr} {fa fb : Env → Store → Option (Bool × Store)} {pos : Pos} (ha : PT X a (tTf G fa)) (hb : PW X (.BoolOp .Or (b :: rest) pos) (tTf G fb)) :
    PW X (.BoolOp .Or (a :: b :: rest) pos) (tTf G fun ρ S => (fa ρ S).bind fun x => if x.1 then some (true, x.2) else fb ρ x.2) := by
  refine pw_weak (pw_or ha hb) fun σ H Q h => ?_
  obtain ⟨M, S, ρ, d, S', rl, e, h, k⟩ := h
  obtain ⟨x, hx, h⟩ := Option.bind_eq_some_iff.mp h
  obtain ⟨c, x2⟩ := x
  refine tTf.mk rl e hx fun M1 H1 r1 q1 => ?_
  cases c with
  | false => exact iteF (tTf.mk r1 (e.ext q1) (show fb ρ x2 = some (d, S') from h) fun M2 H2 r2 q2 => k M2 H2 r2 (q1.trans q2))
  | true =>
    have h : some (true, x2) = some (d, S') := h
    cases h
    exact iteT (k M1 H1 r1 q1)
/-- a value as a test -/
theorem tru_rp {M : Mp} {S : Store} {H : Hp} {d : D} {v : V} {b : Bool} (r : Rel G M S H) (p : Rp G M S.length d v) (h : truD S d = some b) : TruV G.K v H b := by
  cases d with
  | non => cases p; exact (Option.some.inj h).symm
  | bl c => cases p; exact (Option.some.inj h).symm
  | int i => cases p; exact (Option.some.inj h).symm
  | str s =>
    obtain ⟨e, o, l⟩ := p
    rw [e]
    refine ⟨by rw [sizeLine_eq]; exact l, ?_⟩
    rw [← Option.some.inj h, Bool.eq_iff_iff]
    simp
  | tup l =>
    obtain ⟨q, vs, e, s, t⟩ := p
    rw [e]
    refine .inr (.inl ⟨vs, sqT_up r.sub s, ?_⟩)
    rw [← Option.some.inj h]
    have hl := t.length
    cases l <;> cases vs <;> first | rfl | simp at hl
  | lst l =>
    obtain ⟨q, vs, e, s, t⟩ := p
    rw [e]
    refine .inl ⟨vs, SqL.of (r.sub _ _ s), ?_⟩
    rw [← Option.some.inj h]
    have hl := t.length
    cases l <;> cases vs <;> first | rfl | simp at hl
  | ref a =>
    have h2 : (match S[a]? with | some (.lst l) => some (!l.isEmpty) | _ => none) = some b := h
    split at h2
    · rename_i l hl
      obtain ⟨_, e⟩ := p
      obtain ⟨⟨vs, e2, t⟩, _⟩ := r.obj a _ hl
      rw [e]
      refine .inl ⟨vs, SqL.of e2, ?_⟩
      rw [← Option.some.inj h2]
      have hl := t.length
      cases l <;> cases vs <;> first | rfl | simp at hl
    · cases h2
  | _ => exact nn h
theorem t_val {a : Expr} {fa : Env → Store → Option (D × Store)} (hK : X.K = G.K) (ha : PE X a (tEf G fa)) (he : ∀ whole, isTrue a X.env whole = (do let v ← whole; standAt a.pos; holding [v] (truthy v))) :
    PT X a (tTf G fun ρ S => (fa ρ S).bind fun x => (truD x.2 x.1).map fun b => (b, x.2)) := by
  refine pt_weak (pt_truth ha he) fun σ H Q h => ?_
  obtain ⟨M, S, ρ, d, S', rl, e, h, k⟩ := h
  obtain ⟨x, hx, h⟩ := Option.bind_eq_some_iff.mp h
  obtain ⟨b, hb, h⟩ := Option.map_eq_some_iff.mp h
  cases h
  exact tEf.mk rl e hx fun v M1 H1 r1 x1 p1 => ⟨d, by rw [hK]; exact tru_rp r1 p1 hb, k M1 H1 r1 x1⟩

/-! ### argument lists -/
def notStar : Expr → Bool
  | .Starred _ _ => false
  | _ => true
theorem star_cons {e : Expr} {es : List Expr} {env : PySem.Env} (h : notStar e = true) : starEach (e :: es) env = (false, eval e env) :: starEach es env := by
  cases e <;> first | rfl | exact nb h
theorem star_none : ∀ {es : List Expr} {env : PySem.Env}, es.all notStar = true → ∀ x ∈ starEach es env, x.1 = false
  | [], _, _, x, hx => by cases hx
  | e :: es, env, h, x, hx => by
    rw [List.all_cons, Bool.and_eq_true] at h
    rw [star_cons h.1] at hx
    rcases List.mem_cons.mp hx with z | z
    · rw [z]
    · exact star_none h.2 x z
theorem plain_any {es : List Expr} {env : PySem.Env} {pos : Pos} (h : es.all notStar = true) : (backTo pos (starEach es env)).any (·.1) = false := by
  rw [List.any_eq_false]
  intro x hx
  unfold backTo at hx
  obtain ⟨y, hy, e⟩ := List.mem_map.mp hx
  rw [← e, star_none h y hy]
  exact Bool.false_ne_true
theorem a_nil : PA X [] (tAf G fun _ S => some ([], S)) := by
  refine pa_weak pa_nil fun σ H Q h => ?_
  obtain ⟨M, S, ρ, d, S', rl, e, h, k⟩ := h
  cases h
  exact k [] M H rl .refl RpL.nil
theorem a_cons {e : Expr} {es : List Expr} {fe : Env → Store → Option (D × Store)} {fs : Env → Store → Option (List D × Store)} (hs : notStar e = true) (he : PE X e (tEf G fe)) (hr : PA X es (tAf G fs)) :
    PA X (e :: es) (tAf G fun ρ S => (fe ρ S).bind fun x => (fs ρ x.2).map fun y => (x.1 :: y.1, y.2)) := by
  refine pa_weak (pa_cons he hr (star_cons hs)) fun σ H Q h => ?_
  obtain ⟨M, S, ρ, d, S', rl, en, h, k⟩ := h
  obtain ⟨x, hx, h⟩ := Option.bind_eq_some_iff.mp h
  obtain ⟨y, hy, h⟩ := Option.map_eq_some_iff.mp h
  cases h
  refine tEf.mk rl en hx fun v M1 H1 r1 x1 p1 => tAf.mk r1 (en.ext x1) hy fun vs M2 H2 r2 x2 p2 => ?_
  exact k _ M2 H2 r2 (x1.trans x2) (RpL.cons (p1.up x2.up) p2)

/-! ### displays, items, cuts -/
theorem s_tup {es : List Expr} {fs : Env → Store → Option (List D × Store)} {j : Nat} {pos : Pos} (h : PA X es (tAf G fs)) : PE X (.Tuple es j pos) (tEf G fun ρ S => (fs ρ S).bind fun x => if szOk x.1.length then some (.tup x.1, x.2) else none) := by
  refine pe_weak (pe_tup h) fun σ H Q h => ?_
  obtain ⟨M, S, ρ, d, S', rl, e, h, k⟩ := h
  obtain ⟨x, hx, h⟩ := Option.bind_eq_some_iff.mp h
  split at h
  · rename_i c
    cases h
    refine tAf.mk rl e hx fun vs M1 H1 r1 x1 p1 => ⟨by rw [← p1.length]; exact szOk_le c, fun p hp => ?_⟩
    obtain ⟨r2, x2⟩ := rel_fin (o := .tup vs) r1 hp
    exact k _ _ _ r2 (x1.trans x2) ⟨p, vs, rfl, .inl (.inl upd_same), p1.up x2.up⟩
  · cases h
theorem l_disp {es : List Expr} {fs : Env → Store → Option (List D × Store)} {pos : Pos} (h : PA X es (tAf G fs)) : PE X (.List es pos) (tLf G fun ρ S => (fs ρ S).bind fun x => if szOk x.1.length then some x else none) := by
  refine pe_weak (pe_lst h) fun σ H Q h => ?_
  obtain ⟨M, S, ρ, d, S', rl, e, h, k⟩ := h
  obtain ⟨x, hx, h⟩ := Option.bind_eq_some_iff.mp h
  split at h
  · rename_i c
    have h := Option.some.inj h
    rw [h] at hx c
    refine tAf.mk rl e hx fun vs M1 H1 r1 x1 p1 => ⟨by rw [← p1.length]; exact szOk_le c, fun p hp => ?_⟩
    obtain ⟨r2, x2, f1, f2⟩ := rel_free (o := .lst vs) r1 hp
    exact k p vs _ _ r2 (x1.trans x2) (p1.up x2.up) upd_same (x1.fresh rl r1 hp) f1 f2
  · cases h
/-- a new list as a finished one -/
theorem s_frz {e : Expr} {fl : Env → Store → Option (List D × Store)} (h : PE X e (tLf G fl)) : PE X e (tEf G fun ρ S => (fl ρ S).map fun x => (.lst x.1, x.2)) := by
  refine pe_weak h fun σ H Q h => ?_
  obtain ⟨M, S, ρ, d, S', rl, e, h, k⟩ := h
  obtain ⟨x, hx, h⟩ := Option.map_eq_some_iff.mp h
  cases h
  refine ⟨M, S, ρ, x.1, x.2, rl, e, hx, fun p vs M1 H1 r1 x1 p1 hp hn f1 f2 => ?_⟩
  obtain ⟨r2, u2⟩ := rel_freeze r1 hp f1 f2
  refine k _ _ _ r2 ⟨x1.up.trans u2, fun q o h1 h2 h3 => ?_⟩ ⟨p, vs, rfl, upd_same, p1.up u2⟩
  obtain ⟨q1, q2, q3⟩ := x1.fgn q o h1 h2 h3
  refine ⟨q1, ?_, q3⟩
  show upd M1.F p _ q = none
  rw [upd_ne (fun z => by rw [z, hn] at h1; cases h1)]
  exact q2
/-- a new list into the store -/
theorem s_shr {e : Expr} {fl : Env → Store → Option (List D × Store)} (h : PE X e (tLf G fl)) : PE X e (tEf G fun ρ S => (fl ρ S).map fun x => (.ref x.2.length, x.2 ++ [.lst x.1])) := by
  refine pe_weak h fun σ H Q h => ?_
  obtain ⟨M, S, ρ, d, S', rl, e, h, k⟩ := h
  obtain ⟨x, hx, h⟩ := Option.map_eq_some_iff.mp h
  cases h
  refine ⟨M, S, ρ, x.1, x.2, rl, e, hx, fun p vs M1 H1 r1 x1 p1 hp hn f1 f2 => ?_⟩
  obtain ⟨r2, u2, e2⟩ := rel_share (o := .lst x.1) r1 ⟨vs, hp, p1⟩ f1 f2
  refine k _ _ _ r2 ⟨x1.up.trans u2, fun q o h1 h2 h3 => ?_⟩ ⟨by simp, by rw [e2]⟩
  obtain ⟨q1, q2, q3⟩ := x1.fgn q o h1 h2 h3
  refine ⟨q1, q2, fun a ha z => ?_⟩
  have hl : (x.2 ++ [SO.lst x.1]).length = x.2.length + 1 := by simp
  rw [hl] at ha
  by_cases hlt : a < x.2.length
  · rw [u2.m a hlt] at z
    exact q3 a hlt z
  · have ea : a = x.2.length := by omega
    rw [ea, e2] at z
    rw [← z, hn] at h1
    cases h1
def notSlice : Expr → Bool
  | .Slice _ _ _ _ => false
  | _ => true
theorem plainIx_of {b : Expr} (h : notSlice b = true) : PlainIx b := by
  intro o i
  cases b <;> first | rfl | exact nb h
theorem s_idx {a b : Expr} {fa fb : Env → Store → Option (D × Store)} {pos : Pos} (hK : X.K = G.K) (ha : PE X a (tEf G fa)) (hb : PE X b (tEf G fb)) (hs : notSlice b = true) :
    PE X (.Subscript a b pos) (tEf G fun ρ S => (fa ρ S).bind fun x => (fb ρ x.2).bind fun y => (idxD y.2 x.1 y.1).map fun d => (d, y.2)) := by
  refine pe_weak (pe_ix ix_seq ha hb (plainIx_of hs)) fun σ H Q h => ?_
  rw [hK]
  exact op2_read rIx2_ok h
theorem strOk_cut {z : Str} {lo hi : Option Int} (h : PyData.strOk z = true) : PyData.strOk (cutS z lo hi) = true := by
  unfold PyData.strOk at h ⊢
  unfold cutS
  rw [← Array.all_toList, List.all_eq_true] at h ⊢
  intro c hc
  exact h c (List.mem_of_mem_drop (List.mem_of_mem_take (by simpa using hc)))
theorem sIx_zero_full {α : Type} {l : List α} {lo hi : Option Int} (h : HT.sIx l.length 0 lo = 0 ∧ HT.sIx l.length l.length hi = l.length) : cutD l lo hi = l := by
  unfold cutD
  rw [h.1, h.2, List.drop_zero, Nat.sub_zero, List.take_length]
def rSl4 (K : PySem.W.Frag) : V → Option Int → Option Int → Hp → VK → Prop := fun x lo hi H Q => rSlA K x lo hi H Q ∨ rSlL K x lo hi H Q ∨ rSlS x lo hi H Q
theorem sl4 : SlR X (rSl4 X.K) := SlR.or sl_tupA (SlR.or sl_list sl_str)
theorem sl4_ok {M : Mp} {S : Store} {H : Hp} {x : V} {a d : D} {lo hi : Option Int} {Q : VK} (r : Rel G M S H) (p : Rp G M S.length a x) (h : sliceD a lo hi = some d)
    (k : ∀ v M' H', Rel G M' S H' → Ext M S H M' S H' → Rp G M' S.length d v → Q v H') : rSl4 G.K x lo hi H Q := by
  cases a with
  | tup l =>
    obtain ⟨p, vs, e1, s1, t1⟩ := p
    have ed := Option.some.inj (show some (D.tup (cutD l lo hi)) = some d from h)
    refine .inl ⟨p, vs, e1, sqT_up r.sub s1, fun z => ?_, fun _ w hw => ?_⟩
    · refine k _ M H r .refl ?_
      rw [← t1.length] at z
      rw [← ed, sIx_zero_full z]
      exact ⟨p, vs, rfl, s1, t1⟩
    · obtain ⟨r2, x2⟩ := rel_fin (o := .tup (cutV vs lo hi)) r hw
      refine k _ _ _ r2 x2 ?_
      rw [← ed]
      exact ⟨w, _, rfl, .inl (.inl upd_same), (t1.cut lo hi).up x2.up⟩
  | lst l =>
    obtain ⟨p, vs, e1, s1, t1⟩ := p
    have ed := Option.some.inj (show some (D.lst (cutD l lo hi)) = some d from h)
    refine .inr (.inl ⟨p, vs, e1, SqL.of (r.sub _ _ s1), fun w hw => ?_⟩)
    obtain ⟨r2, x2⟩ := rel_fin (o := .lst (cutV vs lo hi)) r hw
    refine k _ _ _ r2 x2 ?_
    rw [← ed]
    exact ⟨w, _, rfl, upd_same, (t1.cut lo hi).up x2.up⟩
  | scr l =>
    obtain ⟨p, vs, e1, s1, t1⟩ := p
    have ed := Option.some.inj (show some (D.lst (cutD l lo hi)) = some d from h)
    refine .inr (.inl ⟨p, vs, e1, sqL_up r.sub s1, fun w hw => ?_⟩)
    obtain ⟨r2, x2⟩ := rel_fin (o := .lst (cutV vs lo hi)) r hw
    refine k _ _ _ r2 x2 ?_
    rw [← ed]
    exact ⟨w, _, rfl, upd_same, (t1.cut lo hi).up x2.up⟩
  | str z =>
    obtain ⟨e1, o1, l1⟩ := p
    have ed := Option.some.inj (show some (D.str (cutS z lo hi)) = some d from h)
    refine .inr (.inr ⟨z, e1, by rw [sizeLine_eq]; exact l1, k _ M H r .refl ?_⟩)
    rw [← ed]
    exact ⟨rfl, strOk_cut o1, Nat.le_trans (cutS_length z lo hi) l1⟩
  | _ => exact nn h
/-- a part of a cut: left out, or an int -/
def POf (X : Cx) (G : Gx) (e : Option Expr) (b : Bool) (f : Env → Store → Option (D × Store)) : Prop :=
  ∃ t : TO, PO X e t ∧ ∀ σ H (Q : Option Int → Hp → Prop) (M : Mp) (S : Store) (ρ : Env) (d : D) (S' : Store) (o : Option Int), Rel G M S H → EnvR G M S H σ ρ → f ρ S = some (d, S') → partD b d = some o →
    (∀ M' H', Rel G M' S' H' → Ext M S H M' S' H' → Q o H') → t σ H Q
theorem pof_none : POf X G none true fun _ S => some (.non, S) := ⟨_, po_none, fun σ H Q M S ρ d S' o r e h ho k => by
  cases h
  cases ho
  exact k M H r .refl⟩
theorem pof_some {e : Expr} {f : Env → Store → Option (D × Store)} (he : PE X e (tEf G f)) : POf X G (some e) false f := ⟨_, po_some he, fun σ H Q M S ρ d S' o r e h ho k => by
  cases d with
  | int i =>
    have ho := Option.some.inj (show some (some i) = some o from ho)
    subst ho
    exact tEf.mk r e h fun v M1 H1 r1 x1 p1 => ⟨i, p1, k M1 H1 r1 x1⟩
  | _ => exact nn ho⟩
theorem s_slice {a : Expr} {lo hi : Option Expr} {fa fl fh : Env → Store → Option (D × Store)} {bl bh : Bool} {pos p2 : Pos} (hK : X.K = G.K) (ha : PE X a (tEf G fa)) (hl : POf X G lo bl fl) (hh : POf X G hi bh fh) :
    PE X (.Subscript a (.Slice lo hi none p2) pos) (tEf G fun ρ S => (fa ρ S).bind fun x => (fl ρ x.2).bind fun y => (fh ρ y.2).bind fun z => (partD bl y.1).bind fun l => (partD bh z.1).bind fun h => (sliceD x.1 l h).map fun d => (d, z.2)) := by
  obtain ⟨tl, pl, gl⟩ := hl
  obtain ⟨th, ph, gh⟩ := hh
  refine pe_weak (pe_slice sl4 ha pl ph) fun σ H Q h => ?_
  obtain ⟨M, S, ρ, d, S', rl, e, h, k⟩ := h
  obtain ⟨x, hx, h⟩ := Option.bind_eq_some_iff.mp h
  obtain ⟨y, hy, h⟩ := Option.bind_eq_some_iff.mp h
  obtain ⟨z, hz, h⟩ := Option.bind_eq_some_iff.mp h
  obtain ⟨l, hl, h⟩ := Option.bind_eq_some_iff.mp h
  obtain ⟨u, hu, h⟩ := Option.bind_eq_some_iff.mp h
  obtain ⟨w, hw, h⟩ := Option.map_eq_some_iff.mp h
  cases h
  refine tEf.mk rl e hx fun v M1 H1 r1 x1 p1 => ?_
  refine gl _ _ _ M1 x.2 ρ y.1 y.2 l r1 (e.ext x1) hy hl fun M2 H2 r2 x2 => ?_
  refine gh _ _ _ M2 y.2 ρ z.1 z.2 u r2 ((e.ext x1).ext x2) hz hu fun M3 H3 r3 x3 => ?_
  rw [hK]
  exact sl4_ok r3 ((p1.up x2.up).up x3.up) hw fun v M4 H4 r4 x4 p4 => k v M4 H4 r4 ((x1.trans x2).trans (x3.trans x4)) p4
theorem s_rev {a : Expr} {fa : Env → Store → Option (D × Store)} {j : Nat} {p1 p2 p3 pos : Pos} (hK : X.K = G.K) (ha : PE X a (tEf G fa)) :
    PE X (.Subscript a (.Slice none none (some (.UnaryOp .USub (.Constant (.int 1) j p1) p2)) p3) pos) (tEf G fun ρ S => (fa ρ S).bind fun x => match x with | (.lst l, S1) => some (.lst l.reverse, S1) | _ => none) := by
  refine pe_weak (pe_revL ha) fun σ H Q h => ?_
  obtain ⟨M, S, ρ, d, S', rl, e, h, k⟩ := h
  obtain ⟨x, hx, h⟩ := Option.bind_eq_some_iff.mp h
  obtain ⟨x1, x2⟩ := x
  cases x1 <;> first | exact nn h | skip
  rename_i l
  have h : some (D.lst l.reverse, x2) = some (d, S') := h
  cases h
  refine tEf.mk rl e hx fun v M1 H1 r1 q1 p1 => ?_
  obtain ⟨p, vs, e1, s1, t1⟩ := p1
  refine ⟨p, vs, e1, SqL.of (r1.sub _ _ s1), fun w hw => ?_⟩
  obtain ⟨r2, q2⟩ := rel_fin (o := .lst vs.reverse) r1 hw
  exact k _ _ _ r2 (q1.trans q2) ⟨w, _, rfl, upd_same, t1.reverse.up q2.up⟩
end
end HN

/-! Built-in functions, calls, what is walked, comprehensions. -/
namespace HN
open PySem L2

/-! ### built-in functions -/
def CRok (G : Gx) (g : Store → List D → Option D) (r : List V → Hp → VK → Prop) : Prop :=
  ∀ (M : Mp) (S : Store) (H : Hp) (vs : List V) (ds : List D) (d : D) (Q : VK), Rel G M S H → RpL G M S.length ds vs → g S ds = some d →
    (∀ v M' H', Rel G M' S H' → Ext M S H M' S H' → Rp G M' S.length d v → Q v H') → r vs H Q
section
variable {G : Gx} {M : Mp} {n : Nat}
theorem ints_of : ∀ {l : List D} {vs : List V} {ns : List Int}, RpL G M n l vs → intsD l = some ns → vs = ns.map V.int
  | [], vs, ns, h, e => by
    have e1 : vs = [] := h
    cases e
    rw [e1] <;> rfl
  | d :: ds, vs, ns, h, e => by
    obtain ⟨v, r, e1, hv, t⟩ := h
    cases d <;> first | exact nn e | skip
    rename_i i
    obtain ⟨ms, h1, h2⟩ := Option.map_eq_some_iff.mp (show (intsD ds).map (i :: ·) = some ns from e)
    rw [e1, ← h2, ints_of t h1, show v = V.int i from hv] <;> rfl
theorem bools_of : ∀ {l : List D} {vs : List V} {ns : List Bool}, RpL G M n l vs → boolsD l = some ns → vs = ns.map V.bl
  | [], vs, ns, h, e => by
    have e1 : vs = [] := h
    cases e
    rw [e1] <;> rfl
  | d :: ds, vs, ns, h, e => by
    obtain ⟨v, r, e1, hv, t⟩ := h
    cases d <;> first | exact nn e | skip
    rename_i i
    obtain ⟨ms, h1, h2⟩ := Option.map_eq_some_iff.mp (show (boolsD ds).map (i :: ·) = some ns from e)
    rw [e1, ← h2, bools_of t h1, show v = V.bl i from hv] <;> rfl
theorem foldl_max_ge : ∀ (r : List Int) (a : Int), a ≤ r.foldl max a ∧ ∀ y ∈ r, y ≤ r.foldl max a
  | [], a => ⟨Int.le_refl _, fun y h => by cases h⟩
  | x :: r, a => by
    obtain ⟨h1, h2⟩ := foldl_max_ge r (max a x)
    refine ⟨Int.le_trans (Int.le_max_left a x) h1, fun y hy => ?_⟩
    rcases List.mem_cons.mp hy with e | e
    · rw [e]; exact Int.le_trans (Int.le_max_right a x) h1
    · exact h2 y e
theorem foldl_max_mem : ∀ (r : List Int) (a : Int), r.foldl max a ∈ a :: r
  | [], a => List.mem_singleton.mpr rfl
  | x :: r, a => by
    rcases List.mem_cons.mp (foldl_max_mem r (max a x)) with h | h
    · show r.foldl max (max a x) ∈ _
      rw [h]
      rcases Int.le_total a x with q | q
      · rw [Int.max_eq_right q]; exact List.mem_cons_of_mem _ List.mem_cons_self
      · rw [Int.max_eq_left q]; exact List.mem_cons_self
    · exact List.mem_cons_of_mem _ (List.mem_cons_of_mem _ h)
theorem maxI_is {ns : List Int} {m : Int} (h : m ∈ ns) (u : ∀ y ∈ ns, y ≤ m) : maxI ns = m := by
  cases ns with
  | nil => cases h
  | cons a r =>
    have h1 := foldl_max_ge r a
    have h2 := u _ (foldl_max_mem r a)
    have h3 : m ≤ r.foldl max a := by
      rcases List.mem_cons.mp h with e | e
      · rw [e]; exact h1.1
      · exact h1.2 m e
    exact Int.le_antisymm h2 h3
theorem ty_rp {S : Store} {H : Hp} {d : D} {v : V} {t : String} (r : Rel G M S H) (p : Rp G M S.length d v) (h : tyD S d = some t) : TyX G.K H v (.type t) := by
  cases d with
  | non => cases p; cases h; exact .base .non
  | bl c => cases p; cases h; exact .base (.bl _)
  | int i => cases p; cases h; exact .base (.int _)
  | str s =>
    obtain ⟨e, _⟩ := p
    rw [e]
    cases h
    exact .base (.str _)
  | tup l =>
    obtain ⟨q, vs, e, s, _⟩ := p
    rw [e]
    cases h
    rcases s with (s | ⟨o, s⟩) | ⟨o, its, n, s, c, _⟩
    · exact .base (.tup (r.sub _ _ s))
    · exact .fTuple (r.sub _ _ s)
    · exact .kTuple s c
  | lst l =>
    obtain ⟨q, vs, e, s, _⟩ := p
    rw [e]
    cases h
    exact .base (.lst (r.sub _ _ s))
  | ref a =>
    have h2 : (match S[a]? with | some (.lst l) => some "list" | _ => none) = some t := h
    split at h2
    · rename_i l hl
      obtain ⟨_, e⟩ := p
      obtain ⟨⟨vs, e2, _⟩, _⟩ := r.obj a _ hl
      rw [e]
      cases h2
      exact .base (.lst e2)
    · cases h2
  | _ => exact nn h
end
section
variable {X : Cx} {G : Gx}
theorem one_rp {M : Mp} {n : Nat} {d : D} {vs : List V} (h : RpL G M n [d] vs) : ∃ v, vs = [v] ∧ Rp G M n d v := by
  obtain ⟨v, r, e, hv, t⟩ := h
  have e2 : r = [] := t
  rw [e2] at e
  exact ⟨v, e, hv⟩
theorem two_rp {M : Mp} {n : Nat} {d d' : D} {vs : List V} (h : RpL G M n [d, d'] vs) : ∃ v w, vs = [v, w] ∧ Rp G M n d v ∧ Rp G M n d' w := by
  obtain ⟨v, r, e, hv, t⟩ := h
  obtain ⟨w, e2, hw⟩ := one_rp t
  rw [e2] at e
  exact ⟨v, w, e, hv, hw⟩
theorem one_some {f : D → Option D} {ds : List D} {d : D} (h : one1 f ds = some d) : ∃ x, ds = [x] ∧ f x = some d := by
  match ds, h with
  | [x], h => exact ⟨x, rfl, h⟩
  | [], h => exact nn h
  | _ :: _ :: _, h => exact nn h
/-- a function of one value -/
theorem ok_one {g : Store → D → Option D} {r : List V → Hp → VK → Prop}
    (h : ∀ (M : Mp) (S : Store) (H : Hp) (v : V) (x d : D) (Q : VK), Rel G M S H → Rp G M S.length x v → g S x = some d → (∀ v M' H', Rel G M' S H' → Ext M S H M' S H' → Rp G M' S.length d v → Q v H') → r [v] H Q) : CRok G (fun S => one1 (g S)) r := by
  intro M S H vs ds d Q rl rs e k
  obtain ⟨x, e1, e2⟩ := one_some e
  rw [e1] at rs
  obtain ⟨v, e3, p⟩ := one_rp rs
  rw [e3]
  exact h M S H v x d Q rl p e2 k
theorem ok_len : CRok G (fun S => biD S .len) (fun xs H Q => ∃ x n, xs = [x] ∧ LenV G.K x H n ∧ Q (.int n) H) := ok_one (g := lenD) fun M S H v x d Q r p h k => by
  cases x with
  | tup l =>
    obtain ⟨p, ws, e1, s, t⟩ := p
    rw [e1]
    cases h
    exact ⟨_, ws.length, rfl, .inr ⟨ws, sqT_up r.sub s, rfl⟩, k _ M H r .refl (by rw [t.length]; rfl)⟩
  | lst l =>
    obtain ⟨p, ws, e1, s, t⟩ := p
    rw [e1]
    cases h
    exact ⟨_, ws.length, rfl, .inl ⟨ws, SqL.of (r.sub _ _ s), rfl⟩, k _ M H r .refl (by rw [t.length]; rfl)⟩
  | scr l =>
    obtain ⟨p, ws, e1, s, t⟩ := p
    rw [e1]
    cases h
    exact ⟨_, ws.length, rfl, .inl ⟨ws, sqL_up r.sub s, rfl⟩, k _ M H r .refl (by rw [t.length]; rfl)⟩
  | str z =>
    obtain ⟨e1, o, l⟩ := p
    rw [e1]
    cases h
    exact ⟨_, z.length, rfl, ⟨by rw [sizeLine_eq]; exact l, rfl⟩, k _ M H r .refl rfl⟩
  | ref a =>
    have h2 : (match S[a]? with | some (.lst l) => some (D.int l.length) | _ => none) = some d := h
    split at h2
    · rename_i l hl
      obtain ⟨_, e1⟩ := p
      obtain ⟨⟨ws, e2, t⟩, _⟩ := r.obj a _ hl
      rw [e1]
      cases h2
      exact ⟨_, ws.length, rfl, .inl ⟨ws, SqL.of e2, rfl⟩, k _ M H r .refl (by rw [t.length]; rfl)⟩
    · cases h2
  | _ => exact nn h
theorem ok_abs : CRok G (fun S => biD S .abs) (fun xs H Q => ∃ i, xs = [V.int i] ∧ Q (.int (if i < 0 then -i else i)) H) := ok_one (g := fun _ => absD) fun M S H v x d Q r p h k => by
  cases x <;> first | exact nn h | skip
  rename_i i
  cases h
  exact ⟨i, congrArg (fun z => [z]) p, k _ M H r .refl rfl⟩
theorem ok_int1 : CRok G (fun S => biD S .int) (fun xs H Q => (∃ i, xs = [V.int i] ∧ Q (.int i) H) ∨ ∃ k, xs = [V.bl k] ∧ Q (.int (if k then 1 else 0)) H) := ok_one (g := fun _ => intD) fun M S H v x d Q r p h k => by
  cases x <;> first | exact nn h | skip
  · rename_i i
    cases h
    exact .inr ⟨i, congrArg (fun z => [z]) p, k _ M H r .refl rfl⟩
  · rename_i i
    cases h
    exact .inl ⟨i, congrArg (fun z => [z]) p, k _ M H r .refl rfl⟩
theorem ok_str1 : CRok G (fun S => biD S .str) (fun xs H Q => ∃ i : Int, xs = [V.int i] ∧ i.natAbs.log2 < 1920 ∧ Q (.str (toString i)) H) := ok_one (g := fun _ => strD) fun M S H v x d Q r p h k => by
  cases x <;> first | exact nn h | skip
  rename_i i
  have h2 : (if decide (i.natAbs.log2 < 1920) && PyData.strOk (toString i) && szOk (Str.ofString (toString i)).length then some (D.str (toString i)) else none) = some d := h
  split at h2
  · rename_i c
    simp only [Bool.and_eq_true, decide_eq_true_eq] at c
    cases h2
    exact ⟨i, congrArg (fun z => [z]) p, c.1.1, k _ M H r .refl ⟨rfl, c.1.2, of_decide_eq_true c.2⟩⟩
  · cases h2
theorem ok_max1 : CRok G (fun S => biD S .max1) (rMax G.K) := ok_one (g := fun _ => maxD) fun M S H v x d Q r p h k => by
  cases x <;> first | exact nn h | skip
  rename_i l
  obtain ⟨p, ws, e1, s, t⟩ := p
  obtain ⟨ns, h1, h2⟩ := Option.bind_eq_some_iff.mp (show ((intsD l).bind fun ns => if ns.isEmpty then none else some (D.int (maxI ns))) = some d from h)
  have ew := ints_of t h1
  cases ns with
  | nil => exact nn h2
  | cons a q =>
    have h2 := Option.some.inj (show some (D.int (maxI (a :: q))) = some d from h2)
    refine ⟨p, a :: q, by rw [e1], by rw [← ew]; exact SqL.of (r.sub _ _ s), Nat.succ_pos _, fun m hm hu => ?_⟩
    refine k _ M H r .refl ?_
    rw [← h2, maxI_is hm hu]
    rfl
theorem ok_sum : CRok G (fun S => biD S .sum) (rSum G.K) := ok_one (g := fun _ => sumD) fun M S H v x d Q r p h k => by
  cases x <;> first | exact nn h | skip
  rename_i l
  obtain ⟨p, ws, e1, s, t⟩ := p
  obtain ⟨ns, h1, h2⟩ := Option.map_eq_some_iff.mp (show ((intsD l).map fun ns => D.int ns.sum) = some d from h)
  have ew := ints_of t h1
  exact ⟨p, ns, by rw [e1], by rw [← ew]; exact SqL.of (r.sub _ _ s), k _ M H r .refl (by rw [← h2]; rfl)⟩
theorem ok_all : CRok G (fun S => biD S .all) (rAll G.K) := ok_one (g := fun _ => allD) fun M S H v x d Q r p h k => by
  cases x <;> first | exact nn h | skip
  rename_i l
  obtain ⟨p, ws, e1, s, t⟩ := p
  obtain ⟨ns, h1, h2⟩ := Option.map_eq_some_iff.mp (show ((boolsD l).map fun ns => D.bl (ns.all id)) = some d from h)
  have ew := bools_of t h1
  exact ⟨p, ns, by rw [e1], by rw [← ew]; exact SqL.of (r.sub _ _ s), k _ M H r .refl (by rw [← h2]; rfl)⟩
theorem ok_tuple : CRok G (fun S => biD S .tuple) (fun xs H Q => ∃ p ys, xs = [V.ref p] ∧ ((SqL G.K H p ys ∧ ∀ l, H l = none → Q (.ref l) (upd H l (.tup ys))) ∨ (SqT G.K H p ys ∧ Q (.ref p) H))) := ok_one (g := tupleD) fun M S H v x d Q r p h k => by
  have fin : ∀ (l : List D) (ws : List V), RpL G M S.length l ws → d = .tup l → ∀ q, H q = none → Q (.ref q) (upd H q (.tup ws)) := fun l ws t e q hq => by
    obtain ⟨r2, x2⟩ := rel_fin (o := .tup ws) r hq
    refine k _ _ _ r2 x2 ?_
    rw [e]
    exact ⟨q, ws, rfl, .inl (.inl upd_same), t.up x2.up⟩
  cases x with
  | lst l =>
    obtain ⟨p, ws, e1, s, t⟩ := p
    exact ⟨p, ws, by rw [e1], .inl ⟨SqL.of (r.sub _ _ s), fin l ws t (Option.some.inj h).symm⟩⟩
  | tup l =>
    obtain ⟨p, ws, e1, s, t⟩ := p
    exact ⟨p, ws, by rw [e1], .inr ⟨sqT_up r.sub s, k _ M H r .refl (by rw [← Option.some.inj h]; exact ⟨p, ws, rfl, s, t⟩)⟩⟩
  | ref a =>
    have h2 : (match S[a]? with | some (.lst l) => some (D.tup l) | _ => none) = some d := h
    split at h2
    · rename_i l hl
      obtain ⟨_, e1⟩ := p
      obtain ⟨⟨ws, e2, t⟩, _⟩ := r.obj a _ hl
      exact ⟨M.m a, ws, by rw [e1], .inl ⟨SqL.of e2, fin l ws t (Option.some.inj h2).symm⟩⟩
    · cases h2
  | _ => exact nn h
/-- list(..) of a list or a tuple; of an empty dict -/
def rListOf (K : PySem.W.Frag) : List V → Hp → VK → Prop := fun xs H Q => (∃ p ys, xs = [V.ref p] ∧ (SqL K H p ys ∨ SqT K H p ys) ∧ ∀ l, H l = none → Q (.ref l) (upd H l (.lst ys))) ∨ ∃ d kvs, xs = [V.ref d] ∧ Rd H d (.dT kvs) ∧ ∀ p bs, H p = none → IsKeys H kvs bs → Q (.ref p) (upd H p (.lst (bs.map V.ref)))
theorem cr_or {X : Cx} {c : Value} {r r' : List V → Hp → VK → Prop} (h : CallR X c r) (h' : CallR X c r') : CallR X c (fun xs H Q => r xs H Q ∨ r' xs H Q) := fun pins s σ H xs us Q I rv z => z.elim (h pins s σ H xs us Q I rv) (h' pins s σ H xs us Q I rv)
theorem ok_list : CRok G (fun S => biD S .list) (rListOf G.K) := ok_one (g := fun _ => listD) fun M S H v x d Q r p h k => by
  have fin : ∀ (l : List D) (ws : List V), RpL G M S.length l ws → d = .lst l → ∀ q, H q = none → Q (.ref q) (upd H q (.lst ws)) := fun l ws t e q hq => by
    obtain ⟨r2, x2⟩ := rel_fin (o := .lst ws) r hq
    refine k _ _ _ r2 x2 ?_
    rw [e]
    exact ⟨q, ws, rfl, upd_same, t.up x2.up⟩
  cases x with
  | lst l =>
    obtain ⟨p, ws, e1, s, t⟩ := p
    exact .inl ⟨p, ws, by rw [e1], .inl (SqL.of (r.sub _ _ s)), fin l ws t (Option.some.inj h).symm⟩
  | tup l =>
    obtain ⟨p, ws, e1, s, t⟩ := p
    exact .inl ⟨p, ws, by rw [e1], .inr (sqT_up r.sub s), fin l ws t (Option.some.inj h).symm⟩
  | dic =>
    obtain ⟨p, e1, s⟩ := p
    refine .inr ⟨p, [], by rw [e1], .inl (r.sub _ _ s), fun q bs hq hb => ?_⟩
    cases hb
    exact fin [] [] RpL.nil (Option.some.inj h).symm q hq
  | _ => exact nn h
/-- repr of data -/
def rRepr (K : PySem.W.Frag) : List V → Hp → VK → Prop := fun xs H Q => ∃ (v : V) (d : PyData), xs = [v] ∧ Dp K H v d ∧ PyProof.Rows.isDisplay d = true ∧ d.showable = true ∧ d.canLay0 = true ∧ d.depth ≤ 60 ∧ d.shown.length ≤ 16777216 ∧ Q (.str d.shown) H
theorem cr_repr {X : Cx} (hg : X.A.guards = some []) (hu : X.A.units + 65 < cLine) : CallR X (.builtin "repr") (rRepr X.K) := by
  intro pins s σ H xs us Q I rv h
  obtain ⟨v, d, rfl, hd, h1, h2, h3, h4, h5, q⟩ := h
  obtain ⟨u, rfl, ru⟩ := rv.one
  obtain ⟨as, rd⟩ := Dp.reads I d v u hd ru
  obtain ⟨a, rfl⟩ := PyProof.Rows.isRef_of_reads rd h1
  exact PySem.repr_of_reads' rd h2 (PySem.PyData.noDict_hsm (PySem.PyData.hasDict_of_canLay d h3)) hg (by omega) (fun _ _ e => e) (fun h' u tk hk => ⟨.str d.shown, H, I.kept hk, ⟨u, rfl⟩, q⟩) (by rw [sizeLine_eq]; exact h5)
theorem disp_py {d : D} (h : D.data d = true) (hz : D.dep d ≠ 0) : PyProof.Rows.isDisplay (toPy d) = true := by
  cases d <;> first | rfl | exact absurd rfl hz | cases h
theorem ok_repr : CRok G (fun S => biD S .repr) (rRepr G.K) := ok_one (g := fun _ => reprD) fun M S H v x d Q r p h k => by
  unfold reprD at h
  split at h
  · rename_i c
    simp only [Bool.and_eq_true, decide_eq_true_eq] at c
    obtain ⟨c1, c2, c3, c4, c5, c6⟩ := c
    cases h
    refine ⟨v, toPy x, rfl, dp_of r.sub c1 p, disp_py c1 c2, c4, lay_of c1 p, by rw [dep_py x c1]; exact c3, of_decide_eq_true c5, k _ M H r .refl ⟨rfl, c6, of_decide_eq_true c5⟩⟩
  · cases h
theorem ok_max2 : CRok G (fun S => biD S .max2) (fun xs H Q => ∃ i j, xs = [V.int i, V.int j] ∧ Q (.int (if j > i then j else i)) H) := by
  intro M S H vs ds d Q r rs h k
  match ds, h with
  | [], h => exact nn h
  | [_], h => exact nn h
  | _ :: _ :: _ :: _, h => exact nn h
  | [x, y], h =>
    cases x <;> cases y <;> first | exact nn h | skip
    rename_i i j
    obtain ⟨v, w, e, e1, e2⟩ := two_rp rs
    cases h
    refine ⟨i, j, by rw [e, show v = V.int i from e1, show w = V.int j from e2], k _ M H r .refl ?_⟩
    rfl
theorem bi_read {g : Store → List D → Option D} {r : List V → Hp → VK → Prop} {fs : Env → Store → Option (List D × Store)} {σ : L2.St} {H : Hp} {Q : VK} (ok : CRok G g r)
    (h : tEf G (fun ρ S => (fs ρ S).bind fun x => (g x.2 x.1).map fun d => (d, x.2)) σ H Q) : tCB r (tAf G fs) σ H Q := by
  obtain ⟨M, S, ρ, d, S', rl, e, h, k⟩ := h
  obtain ⟨x, hx, h⟩ := Option.bind_eq_some_iff.mp h
  obtain ⟨z, hz, h⟩ := Option.map_eq_some_iff.mp h
  cases h
  exact tAf.mk rl e hx fun vs M1 H1 r1 x1 p1 => ok M1 x.2 H1 vs x.1 d Q r1 p1 hz fun u M3 H3 r3 x3 p3 => k u M3 H3 r3 (x1.trans x3) p3
/-- by its name -/
theorem s_biB {id : String} {x : Str} {r : List V → Hp → VK → Prop} {g : Store → List D → Option D} {fs : Env → Store → Option (List D × Store)} {p pos : Pos} {e : Expr} {es : List Expr} (ok : CRok G g r) (hc : CallR X (.builtin id) r) (hg : Gl X x) (hm : X.mg x = none) (hv : bootBuiltins x = some (.builtin id))
    (ha : PA X (e :: es) (tAf G fs)) (hn : x ≠ "__name__") (hd : (x == ("__debug__" : Str)) = false) (hs : notStar e = true) (hss : es.all notStar = true) : PE X (.Call (.Name x p) (e :: es) [] pos) (tEf G fun ρ S => (fs ρ S).bind fun x => (g x.2 x.1).map fun d => (d, x.2)) :=
  pe_weak (pe_callB hc hg hm hv ha hn hd (star_cons hs) (plain_any hss)) fun σ H Q h => bi_read ok h
theorem s_biT {id : String} {x : Str} {r : List V → Hp → VK → Prop} {g : Store → List D → Option D} {fs : Env → Store → Option (List D × Store)} {p pos : Pos} {e : Expr} {es : List Expr} (ok : CRok G g r) (hc : CallR X (.type id) r) (hg : Gl X x) (hm : X.mg x = none) (hv : bootBuiltins x = some (.type id))
    (ha : PA X (e :: es) (tAf G fs)) (hn : x ≠ "__name__") (hd : (x == ("__debug__" : Str)) = false) (hs : notStar e = true) (hss : es.all notStar = true) : PE X (.Call (.Name x p) (e :: es) [] pos) (tEf G fun ρ S => (fs ρ S).bind fun x => (g x.2 x.1).map fun d => (d, x.2)) :=
  pe_weak (pe_callTy hc hg hm hv ha hn hd (star_cons hs) (plain_any hss)) fun σ H Q h => bi_read ok h
/-- isinstance(e, T) -/
theorem s_isinst {x y : Str} {T : String} {fe : Env → Store → Option (D × Store)} {p p2 pos : Pos} {e : Expr} (hK : X.K = G.K) (hx : x = "isinstance") (hg : Gl X x) (hm : X.mg x = none) (hg2 : Gl X y) (hm2 : X.mg y = none) (hv2 : bootBuiltins y = some (.type T)) (hn2 : y ≠ "__name__") (hd2 : (y == ("__debug__" : Str)) = false)
    (he : PE X e (tEf G fe)) (hs : notStar e = true) (hT : ∀ t, t ∈ ["NoneType", "bool", "int", "str", "tuple", "list"] → kitB t T = some (isT T t)) :
    PE X (.Call (.Name x p) [e, .Name y p2] [] pos) (tEf G fun ρ S => (fe ρ S).bind fun x => (tyD x.2 x.1).map fun t => (.bl (isT T t), x.2)) := by
  subst hx
  refine pe_weak (pe_callB (r := rIsi X.K) call_isi hg hm PyProof.Rows.boot_isinstance (pa_cons he (pa_cons (pe_bltn hg2 hm2 hv2 (show RelV (.ty T) (.type T) from rfl) hn2 hd2) pa_nil (star_cons rfl)) (star_cons hs)) (by decide) (by decide) (star_cons hs) (plain_any rfl)) fun σ H Q h => ?_
  obtain ⟨M, S, ρ, d, S', rl, en, h, k⟩ := h
  obtain ⟨x, hx, h⟩ := Option.bind_eq_some_iff.mp h
  obtain ⟨t, ht, h⟩ := Option.map_eq_some_iff.mp h
  cases h
  refine tEf.mk rl en hx fun v M1 H1 r1 x1 p1 => ?_
  have mem : t ∈ ["NoneType", "bool", "int", "str", "tuple", "list"] := by
    cases hx1 : x.1 with
    | ref a =>
      rw [hx1] at ht
      have h2 : (match x.2[a]? with | some (.lst l) => some "list" | _ => none) = some t := ht
      split at h2
      · cases h2; simp
      · cases h2
    | _ => rw [hx1] at ht; first | exact nn ht | (cases ht; simp)
  exact ⟨v, .ty T, .type t, .type T, isT T t, rfl, .ty T, by rw [hK]; exact ty_rp r1 p1 ht, kit_ty (hT t mem), k _ M1 H1 r1 x1 rfl⟩
end
end HN

/-! max(.., default=0) of a list of ints. -/
namespace HN
open PySem PySem.Spec PyProof.Rows L2
open PySem.W (AlikeAll max_list_default maxD_ints)
def rMaxDef (K : PySem.W.Frag) : List V → List V → Hp → VK → Prop := fun vs zs H Q => ∃ (a : Addr) (ns : List Int), vs = [.ref a] ∧ zs = [.int 0] ∧ SqL K H a (ns.map V.int) ∧ Q (.int (if ns.isEmpty then 0 else maxI ns)) H
theorem reads_ints {h : Heap} : ∀ {ns : List Int} {its : List Value}, Vals (ns.map V.int) its → ReadsAll h its (ns.map PyData.int) []
  | [], its, r => by
    cases r
    exact .nil
  | n :: ns, its, r => by
    cases r with
    | cons r1 r2 =>
      obtain ⟨t, rfl⟩ := r1
      exact .cons (.int n t) (reads_ints r2)
theorem alike_ints (ns : List Int) : AlikeAll (ns.map PyData.int) := by
  refine ⟨fun x hx y hy => ?_, fun x hx => ?_⟩
  · obtain ⟨a, _, rfl⟩ := List.mem_map.mp hx
    obtain ⟨b, _, rfl⟩ := List.mem_map.mp hy
    rfl
  · obtain ⟨a, _, rfl⟩ := List.mem_map.mp hx
    exact fun e => by cases e
theorem depth_ints : ∀ ns : List Int, PyData.depthAll (ns.map PyData.int) = 0
  | [] => rfl
  | n :: ns => by
    have ih := depth_ints ns
    simp [PyData.depthAll, PyData.depth, ih]
theorem cr_maxDef {X : Cx} (hc : X.calm = true) (hu : X.A.units + 65 < cLine) : CallRK X (.builtin "max") [Str.ofString "default"] (rMaxDef X.K) := by
  intro pins s σ H xs zs us ws Q I r rz h
  obtain ⟨a, ns, rfl, rfl, hs, q⟩ := h
  obtain ⟨its, rv, hl, _⟩ := I.list hs
  rw [Vals.ref1 r]
  cases rz with
  | cons z1 z2 =>
    cases z2
    obtain ⟨t, rfl⟩ := z1
    show wpAny _ _ (call (.builtin "max") [.ref a] [(Str.ofString "default", .int 0 t)]) _ _ _
    refine max_list_default (I.ok.hd hc) hl.isList (reads_ints (by simpa using rv)) (alike_ints ns) (by rw [depth_ints]; omega) (fun e h' tk hk => ?_) fun y ys i v h' tk bs e hv hr hk => ?_
    · cases ns with
      | nil => exact ⟨.int 0, H, I.kept hk, ⟨t, rfl⟩, q⟩
      | cons _ _ => cases e
    · cases ns with
      | nil => cases e
      | cons n ns =>
        have e : PyData.int n :: ns.map PyData.int = y :: ys := e
        injection e with e1 e2
        subst e1 e2
        rw [maxD_ints] at hr
        cases hr with
        | int _ t => exact ⟨.int _, H, I.kept hk, ⟨t, rfl⟩, q⟩
theorem s_maxDef {X : Cx} {G : Gx} {x : Str} {e : Expr} {fe : Env → Store → Option (D × Store)} {p pos kp cp : Pos} {k : Nat} (hK : X.K = G.K) (hc : X.calm = true) (hu : X.A.units + 65 < cLine) (hx : x = "max") (hg : Gl X x) (hm : X.mg x = none) (hd : (x == ("__debug__" : Str)) = false)
    (he : PE X e (tEf G fe)) (hs : notStar e = true) : PE X (.Call (.Name x p) [e] [⟨some "default", .Constant (.int 0) k cp, kp⟩] pos) (tEf G fun ρ S => (fe ρ S).bind fun x => (max0D x.1).map fun d => (d, x.2)) := by
  subst hx
  refine pe_weak (pe_callBK (cr_maxDef hc hu) hg hm (by decide +kernel) (pa_cons he pa_nil (star_cons hs)) (pk_cons pe_int pk_nil) (by decide) hd (by rw [star_cons hs] <;> rfl) (plain_any (by rw [List.all_cons, hs] <;> rfl)) rfl rfl rfl) fun σ H Q h => ?_
  obtain ⟨M, S, ρ, d, S', rl, en, h, kk⟩ := h
  obtain ⟨⟨x1, x2⟩, hx1, h⟩ := Option.bind_eq_some_iff.mp h
  obtain ⟨d', hd', h⟩ := Option.map_eq_some_iff.mp h
  cases h
  refine tEf.mk rl en hx1 fun v M1 H1 r1 q1 p1 => ?_
  cases x1 with
  | lst l =>
    obtain ⟨q, ws, e1, s, t⟩ := p1
    obtain ⟨ns, h1, h2⟩ := Option.map_eq_some_iff.mp (show ((intsD l).map fun ns => D.int (if ns.isEmpty then 0 else maxI ns)) = some d from hd')
    have ew := ints_of t h1
    show rMaxDef X.K [v] [.int 0] H1 Q
    refine ⟨q, ns, by rw [e1], rfl, ?_, ?_⟩
    · rw [hK, ← ew]; exact SqL.of (r1.sub _ _ s)
    · exact kk _ M1 H1 r1 q1 (by rw [← h2]; rfl)
  | _ => exact nn hd'
end HN

/-! Calls where no repr is under way: what a def promises, the call, the def by its body, the law's head. -/
namespace HN
open PySem PySem.Spec PyProof.Rows L2
/-- as FnOk, told of a place where no repr is under way -/
structure FnG (P : Program) (w : World) (K : PySem.W.Frag) (mg : Str → Option Value) (base : Heap) (n : Nat) (f : Addr) (fd : FuncData) (ps : List Str) (sp : Sp) : Prop where
  len : ∀ us H R E, sp us H R E → us.length = ps.length
  run : ∀ (B : Around) (fs : List PySem.Env) (st : Shared) (H : Hp) (as : Args) (xs : List Value) (ys : List V) (R : VK) (E : XK), Room n B → B.guards = some [] → Env0 P w K mg base B fs st H → BindsTo st fd as (ps.zip xs) → Vals ys xs → sp ys H R E → codeAny (model P w) B (.call (.ref f) as) (CR CX0 fs P w H st R E) st
theorem FnG.imp {P : Program} {w : World} {K : PySem.W.Frag} {mg : Str → Option Value} {base : Heap} {n : Nat} {f : Addr} {fd : FuncData} {ps : List Str} {sp sp' : Sp} (F : FnG P w K mg base n f fd ps sp) (h : ∀ ys H R E, sp' ys H R E → sp ys H R E) : FnG P w K mg base n f fd ps sp' :=
  ⟨fun ys H R E q => F.len ys H R E (h _ _ _ _ q), fun B fs st H as xs ys R E h1 h2 h3 h4 h5 q => F.run B fs st H as xs ys R E h1 h2 h3 h4 h5 (h _ _ _ _ q)⟩
section
variable {X : Cx} {n : Nat} {f : Addr} {fd : FuncData} {ps : List Str} {sp : Sp}
/-- behind the call -/
theorem cr_ends {pins : List (Addr × Obj)} {σ : L2.St} {H : Hp} {st : Shared} {R : VK} {E : XK} (hx : Passes CX0 X E) (I : Inv X pins σ H st) {r : Result} {s' : Shared} (h : CR CX0 X.stack X.prog X.w H st R E r s') : callEnd (EP X pins σ R) X.xe r s' := by
  match r, h with
  | .error e, h => exact hx pins σ H st e s' I h
  | .ok (.ret u), h => exact I.after h
  | .ok .next, h => exact h.elim
  | .ok .brk, h => exact h.elim
  | .ok .cont, h => exact h.elim
theorem g_run {pins : List (Addr × Obj)} {σ : L2.St} {H : Hp} {st : Shared} {R : VK} {E : XK} {xs : List Value} {ys : List V} (F : FnG X.prog X.w X.K X.mg X.base n f fd ps sp) (hr : Room n X.A) (hg : X.A.guards = some []) (hb : Binds X.K fd ps []) (hx : Passes CX0 X E)
    (I : Inv X pins σ H st) (r : Vals ys xs) (h : sp ys H R E) : wpAny (model X.prog X.w) X.A (call (.ref f) xs) (EP X pins σ R) X.xe st := by
  have hl : (xs ++ []).length = ps.length := by rw [List.append_nil, ← r.length]; exact F.len _ _ _ _ h
  have b := hb st xs I.kIn hl
  rw [List.append_nil] at b
  exact wpAny_call (codeAny_mono (F.run X.A X.stack st H ⟨xs, []⟩ xs ys R E hr hg I.env0 b r h) fun q s' z => cr_ends hx I z)
theorem g_call {x : Str} {p pos : Pos} {e : Expr} {es : List Expr} {t : TA} {E : XK} (F : FnG X.prog X.w X.K X.mg X.base n f fd ps sp) (hr : Room n X.A) (hg : X.A.guards = some []) (gl : Gl X x) (hm : X.mg x = some (.ref f)) (hk : PySem.W.keepIn X.K (.ref f) = true) (hb : Binds X.K fd ps []) (hx : Passes CX0 X E)
    (ha : PA X (e :: es) t) (hd : (x == ("__debug__" : Str)) = false) (he : starEach (e :: es) X.env = (false, eval e X.env) :: starEach es X.env) (hp : (backTo pos (starEach es X.env)).any (·.1) = false) :
    PE X (.Call (.Name x p) (e :: es) [] pos) (tCall sp [] E t) := by
  refine ⟨fun pins st σ H R I h => wpAny_Call_Name_kw (ld_glob I gl hm ?_ hd)⟩
  refine PySem.W.callWith_K (h₀ := X.base) I.ok.mod.kin hk (thn (ha.run pos pins st σ H _ I h) fun us s1 z => ?_) he hp
  obtain ⟨vs, H1, I1, r, q⟩ := z
  rw [List.append_nil] at q
  exact ⟨I1.kIn, g_run F hr hg hb hx I1 r q⟩
theorem g_call0 {x : Str} {p pos : Pos} {E : XK} (F : FnG X.prog X.w X.K X.mg X.base n f fd ps sp) (hr : Room n X.A) (hg : X.A.guards = some []) (gl : Gl X x) (hm : X.mg x = some (.ref f)) (hk : PySem.W.keepIn X.K (.ref f) = true) (hb : Binds X.K fd ps []) (hx : Passes CX0 X E)
    (hd : (x == ("__debug__" : Str)) = false) : PE X (.Call (.Name x p) [] [] pos) (tCall sp [] E tNil) :=
  ⟨fun pins st σ H R I h => wpAny_Call_Name_kw (ld_glob I gl hm (PySem.W.callWith_K0 I.kIn hk (g_run (xs := []) F hr hg hb hx I .nil h)) hd)⟩
theorem g_runK {pins : List (Addr × Obj)} {σ : L2.St} {H : Hp} {st : Shared} {R : VK} {E : XK} {xs ws : List Value} {ys zs : List V} {ks : List Str} {g : List Value → List Value → List Value} {gV : List V → List V → List V} (F : FnG X.prog X.w X.K X.mg X.base n f fd ps sp) (hr : Room n X.A) (hg : X.A.guards = some [])
    (hb : KBinds X.K fd ps ks g gV) (hx : Passes CX0 X E) (I : Inv X pins σ H st) (r : Vals ys xs) (rz : Vals zs ws) (h : sp (gV ys zs) H R E) : wpAny (model X.prog X.w) X.A (call (.ref f) xs (ks.zip ws)) (EP X pins σ R) X.xe st := by
  have rr := hb.rel r rz
  have hl : (g xs ws).length = ps.length := by rw [← rr.length]; exact F.len _ _ _ _ h
  exact wpAny_call (codeAny_mono (F.run X.A X.stack st H ⟨xs, ks.zip ws⟩ (g xs ws) (gV ys zs) R E hr hg I.env0 (hb.to st xs ws I.kIn hl) rr h) fun q s' z => cr_ends hx I z)
theorem g_callK {x : Str} {p pos : Pos} {e : Expr} {es : List Expr} {kws : List Keyword} {t tk : TA} {E : XK} {ks : List Str} {g : List Value → List Value → List Value} {gV : List V → List V → List V} (F : FnG X.prog X.w X.K X.mg X.base n f fd ps sp) (hr : Room n X.A) (hg : X.A.guards = some []) (gl : Gl X x)
    (hm : X.mg x = some (.ref f)) (hk : PySem.W.keepIn X.K (.ref f) = true) (hb : KBinds X.K fd ps ks g gV) (hx : Passes CX0 X E) (ha : PA X (e :: es) t) (hkw : PK X kws tk) (hall : (backToKw pos (keywordEach kws X.env)).all (·.1.isSome) = true) (hks : (backToKw pos (keywordEach kws X.env)).filterMap (·.1) = ks)
    (hd : (x == ("__debug__" : Str)) = false) (he : starEach (e :: es) X.env = (false, eval e X.env) :: starEach es X.env) (hp : ((backTo pos (starEach (e :: es) X.env)).any (·.1) || (backToKw pos (keywordEach kws X.env)).any (·.1.isNone)) = false) :
    PE X (.Call (.Name x p) (e :: es) kws pos) (tCallK sp gV E t tk) := by
  refine ⟨fun pins st σ H R I h => wpAny_Call_Name_kw (ld_glob I gl hm ?_ hd)⟩
  refine PySem.W.callWith_KW (h₀ := X.base) I.ok.mod.kin hk hall (thn (ha.run pos pins st σ H _ I h) fun us s1 z => ?_) hp he
  obtain ⟨vs, H1, I1, r, q⟩ := z
  refine thn (hkw.run pos pins s1 σ H1 _ I1 q) fun ws s2 z2 => ?_
  obtain ⟨zs, H2, I2, rz, q2⟩ := z2
  exact ⟨I2.kIn, by rw [hks]; exact g_runK F hr hg hb hx I2 r rz q2⟩
end
/-- the def, by its body -/
theorem g_def {P : Program} {w : World} {K : PySem.W.Frag} {mg : Str → Option Value} {base : Heap} {x qual : Str} {params : Arguments} {body : List Stmt} {scope : Scope} {dvs : List V} {kws : List (Str × V)} {f : Addr} {fd : FuncData} {N ps : List Str} {n : Nat} {sp : Sp}
    (F : FunD K x qual params body scope dvs kws f fd) (S : FnScope N ps scope) (len : ∀ ys H R E, sp ys H R E → ys.length = ps.length)
    (hbody : ∀ (cdv : Value) (B : Around) (fs : List PySem.Env) (st : Shared) (H : Hp) (ys : List V) (R : VK) (E : XK), Room n (B.deeper (envOfC qual scope st.heap.objs.size f cdv)) → B.guards = some [] → sp ys H R E →
      ∃ t, PSs (cxOf CX0 P w K mg base N qual scope f cdv B fs st H E) body t ∧ t { nx := fun _ H' => R .non H', rt := R } (L2.start N ys) H) : FnG P w K mg base (n + 1) f fd ps sp := by
  obtain ⟨oc, od, dV, kV, doc, pm, an, cdv, ct, osl, rfl, lk, hcd, _, _⟩ := F.ex
  refine ⟨len, fun B fs st H as xs ys R E hr hg e0 hb r hsp => ?_⟩
  have kx : K.In st.heap := e0.mod.kin.keeps fun b o e => (e0.bs b o e).1
  have nolim : st.heap.NoLimit := e0.mod.nolimit.keeps fun b o e => (e0.bs b o e).1
  have kinds : ∀ y ∈ ps.zip xs, scope.names.lookup y.1 = some .local ∨ (scope.names.lookup y.1 = some .cell ∧ ((cellsFrom (st.heap.objs.size + 1) scope.names []).lookup y.1).isSome = true) := fun y hy => by
    rcases S.par y.1 (List.of_mem_zip (show (y.1, y.2) ∈ ps.zip xs from hy)).1 with q | q
    · exact .inl q
    · exact .inr ⟨q, PySem.W.cellsFrom_some _ _ _ (.inl q)⟩
  refine codeAny_call_function hr.depth (kx _ _ lk) rfl S.co S.gen rfl (PySem.W.codeRec_of kx hcd) (hb _ _ _ _ (wpAny_newFunctionEnv_cells S.kind kinds fun env he s1 z => ?_))
  subst he
  refine ⟨nolim.keeps z.toInCall.keep, codeAny_func ?_⟩
  obtain ⟨t, ht, hq⟩ := hbody cdv B fs st H ys R E (hr.deeper _) hg hsp
  have I := inv_start (E := E) (CX := CX0) S hr.hd e0 (len _ _ _ _ hsp) r z
  have done : ∀ {σ' : L2.St} {H' : Hp} {v : V} {u : Value} {s' : Shared}, Inv (cxOf CX0 P w K mg base N qual scope f cdv B fs st H E) [] σ' H' s' → RelV v u → R v H' → CE fs P w H st R u s' := fun J rv q => ⟨_, _, J.os, J.bare, J.base, J.hok, rv, q⟩
  refine wpAny_mono (ht.run [] s1 (L2.start N ys) H _ I hq) (fun fl s' hs => ?_) fun _ _ z => z
  match fl, hs with
  | .ret u, ⟨v, σ', H', J, rv, q⟩ => exact done J rv q
  | .next, ⟨σ', H', J, q⟩ => exact done (v := V.non) (u := Value.none) J rfl q
  | .brk, ⟨_, _, _, q⟩ => exact q.elim
  | .cont, ⟨_, _, _, q⟩ => exact q.elim
end HN

/-! Calls, what is walked, comprehensions. -/
namespace HN
open PySem L2

/-! ### calls -/
/-- what a def of the text keeps: it does what cf says -/
def spF (G : Gx) (np : Nat) (cf : List D → Store → Option (D × Store)) : Sp := fun vs H Q _ => ∃ (M : Mp) (S : Store) (ds : List D) (d : D) (S' : Store), vs.length = np ∧ Rel G M S H ∧ RpL G M S.length ds vs ∧ cf ds S = some (d, S') ∧
  ∀ v M' H', Rel G M' S' H' → Ext M S H M' S' H' → Rp G M' S'.length d v → Q v H'
/-- the given arguments and as many keywords -/
def kwG {α : Type} (k : Nat) (us ws : List α) : List α := if ws.length = k then us ++ ws else []
section
variable {X : Cx} {G : Gx} {k : Nat} {f : Addr} {fd : FuncData} {ps : List Str} {cf : List D → Store → Option (D × Store)} {x : Str} {p pos : Pos} {e : Expr} {es : List Expr} {fs : Env → Store → Option (List D × Store)}
theorem s_call (F : FnG X.prog X.w X.K X.mg X.base k f fd ps (spF G ps.length cf)) (hr : Room k X.A) (hgd : X.A.guards = some []) (hg : Gl X x) (hm : X.mg x = some (.ref f)) (hk : PySem.W.keepIn X.K (.ref f) = true) (hb : Binds X.K fd ps []) (hl : ∀ ds S r, cf ds S = some r → ds.length = ps.length)
    (ha : PA X (e :: es) (tAf G fs)) (hd : (x == ("__debug__" : Str)) = false) (hs : notStar e = true) (hss : es.all notStar = true) : PE X (.Call (.Name x p) (e :: es) [] pos) (tEf G fun ρ S => (fs ρ S).bind fun x => cf x.1 x.2) := by
  refine pe_weak (g_call F hr hgd hg hm hk hb pass0 ha hd (star_cons hs) (plain_any hss)) fun σ H Q h => ?_
  obtain ⟨M, S, ρ, d, S', rl, en, h, k⟩ := h
  obtain ⟨x, hx, h⟩ := Option.bind_eq_some_iff.mp h
  refine tAf.mk rl en hx fun vs M1 H1 r1 x1 p1 => ?_
  show spF G ps.length cf (vs ++ []) H1 Q E0
  rw [List.append_nil]
  exact ⟨M1, x.2, x.1, d, S', by rw [← p1.length]; exact hl _ _ _ h, r1, p1, h, fun v M2 H2 r2 x2 p2 => k v M2 H2 r2 (x1.trans x2) p2⟩
theorem s_call0 (F : FnG X.prog X.w X.K X.mg X.base k f fd ps (spF G ps.length cf)) (hr : Room k X.A) (hgd : X.A.guards = some []) (hg : Gl X x) (hm : X.mg x = some (.ref f)) (hk : PySem.W.keepIn X.K (.ref f) = true) (hb : Binds X.K fd ps []) (hl : ∀ ds S r, cf ds S = some r → ds.length = ps.length)
    (hd : (x == ("__debug__" : Str)) = false) : PE X (.Call (.Name x p) [] [] pos) (tEf G fun _ S => cf [] S) := by
  refine pe_weak (g_call0 F hr hgd hg hm hk hb pass0 hd) fun σ H Q h => ?_
  obtain ⟨M, S, ρ, d, S', rl, en, h, k⟩ := h
  show spF G ps.length cf ([] ++ []) H Q E0
  exact ⟨M, S, [], d, S', hl _ _ _ h, rl, RpL.nil, h, k⟩
/-- the keywords' values -/
def kwNames (kws : List Keyword) : List (Option Str) := kws.map (·.arg)
theorem k_nil : PK X [] (tAf G fun _ S => some ([], S)) := ⟨fun pos pins s σ H Q I h => by
  obtain ⟨M, S, ρ, d, S', rl, e, h, k⟩ := h
  cases h
  exact pk_nil.run pos pins s σ H Q I (k [] M H rl .refl RpL.nil)⟩
theorem k_cons {nm : Option Str} {kpos : Pos} {kws : List Keyword} {fe : Env → Store → Option (D × Store)} (he : PE X e (tEf G fe)) (hr : PK X kws (tAf G fs)) : PK X (⟨nm, e, kpos⟩ :: kws) (tAf G fun ρ S => (fe ρ S).bind fun x => (fs ρ x.2).map fun y => (x.1 :: y.1, y.2)) := ⟨fun pos pins s σ H Q I h => by
  refine (pk_cons (nm := nm) (kpos := kpos) he hr).run pos pins s σ H Q I ?_
  obtain ⟨M, S, ρ, d, S', rl, en, h, k⟩ := h
  obtain ⟨x, hx, h⟩ := Option.bind_eq_some_iff.mp h
  obtain ⟨y, hy, h⟩ := Option.map_eq_some_iff.mp h
  cases h
  refine tEf.mk rl en hx fun v M1 H1 r1 x1 p1 => tAf.mk r1 (en.ext x1) hy fun vs M2 H2 r2 x2 p2 => ?_
  exact k _ M2 H2 r2 (x1.trans x2) (RpL.cons (p1.up x2.up) p2)⟩
theorem kwG_eq {α : Type} {k : Nat} {us ws : List α} (h : ws.length = k) : kwG k us ws = us ++ ws := if_pos h
theorem s_callK {ks : List Str} {kws : List Keyword} {fk : Env → Store → Option (List D × Store)} (F : FnG X.prog X.w X.K X.mg X.base k f fd ps (spF G ps.length cf)) (hr : Room k X.A) (hgd : X.A.guards = some []) (hg : Gl X x) (hm : X.mg x = some (.ref f)) (hk : PySem.W.keepIn X.K (.ref f) = true)
    (hb : KBinds X.K fd ps ks (kwG ks.length) (kwG ks.length)) (hlk : ∀ ρ S r, fk ρ S = some r → r.1.length = ks.length) (hl : ∀ ds S r, cf ds S = some r → ds.length = ps.length)
    (ha : PA X (e :: es) (tAf G fs)) (hkw : PK X kws (tAf G fk)) (hall : (backToKw pos (keywordEach kws X.env)).all (·.1.isSome) = true) (hks : (backToKw pos (keywordEach kws X.env)).filterMap (·.1) = ks)
    (hnone : (backToKw pos (keywordEach kws X.env)).any (·.1.isNone) = false)
    (hd : (x == ("__debug__" : Str)) = false) (hs : notStar e = true) (hss : es.all notStar = true) : PE X (.Call (.Name x p) (e :: es) kws pos) (tEf G fun ρ S => (fs ρ S).bind fun x => (fk ρ x.2).bind fun y => cf (x.1 ++ y.1) y.2) := by
  refine pe_weak (g_callK F hr hgd hg hm hk hb pass0 ha hkw hall hks hd (star_cons hs) (by rw [hnone, plain_any (by rw [List.all_cons, hs, hss] <;> rfl)] <;> rfl)) fun σ H Q h => ?_
  obtain ⟨M, S, ρ, d, S', rl, en, h, k⟩ := h
  obtain ⟨x, hx, h⟩ := Option.bind_eq_some_iff.mp h
  obtain ⟨y, hy, h⟩ := Option.bind_eq_some_iff.mp h
  refine tAf.mk rl en hx fun vs M1 H1 r1 x1 p1 => tAf.mk r1 (en.ext x1) hy fun zs M2 H2 r2 x2 p2 => ?_
  have pp := (p1.up x2.up).append p2
  rw [kwG_eq (by rw [← p2.length]; exact hlk _ _ _ hy)]
  exact ⟨M2, y.2, x.1 ++ y.1, d, S', by rw [← pp.length]; exact hl _ _ _ h, r2, pp, h, fun v M3 H3 r3 x3 p3 => k v M3 H3 r3 ((x1.trans x2).trans x3) p3⟩
end

/-! ### what is walked -/
/-- the iterator yields the items, as long as the list stands -/
def ItOk (G : Gx) (J : L2.It) (items : List D) (src : Option (Nat × List D)) (M0 : Mp) (n0 : Nat) : Prop :=
  ∀ (M : Mp) (S : Store) (H : Hp), Rel G M S H → Up M0 M n0 S.length → keptP src S → ∀ i, (i < items.length → J.go i H) ∧ (items.length ≤ i → J.stop i H) ∧
    ∀ x H' d, items[i]? = some d → J.yld i H x H' → ∃ M', Rel G M' S H' ∧ Ext M S H M' S H' ∧ Rp G M' S.length d x
structure PIf (X : Cx) (G : Gx) (tg iter : Expr) (f : Env → Store → Option ((List D × Option (Nat × List D)) × Store)) : Prop where
  ex : ∃ wi, PI X tg iter wi ∧ ∀ σ H R (M : Mp) (S : Store) (ρ : Env) w S', Rel G M S H → EnvR G M S H σ ρ → f ρ S = some (w, S') →
    (∀ J M' H', Rel G M' S' H' → Ext M S H M' S' H' → ItOk G J w.1 w.2 M' S'.length → keptP w.2 S' → R J H') → wi σ H R
section
variable {X : Cx} {G : Gx} {tg : Expr}
theorem pi_or {iter : Expr} {w1 w2 : TI} (h1 : PI X tg iter w1) (h2 : PI X tg iter w2) : PI X tg iter (fun σ H R => w1 σ H R ∨ w2 σ H R) := ⟨fun pins s σ H R I h => by
  rcases h with h | h
  · exact h1.run pins s σ H R I h
  · exact h2.run pins s σ H R I h⟩
theorem itl_ok {a : Addr} {vs : List V} {l : List D} {M : Mp} {n : Nat} (hf : M.F a = some (.lst vs)) (t : RpL G M n l vs) : ItOk G (Itl G.K a) l none M n := by
  intro M2 S2 H2 r u _ i
  have h2 : SqL G.K H2 a vs := SqL.of (r.sub _ _ (u.F _ _ hf))
  have t2 := t.up u
  have hl := t2.length
  refine ⟨fun hi => ⟨vs, vs[i], h2, List.getElem?_eq_getElem (by omega)⟩, fun hi => ⟨vs, h2, by omega⟩, fun x H' d hd hy => ?_⟩
  obtain ⟨e, hy⟩ := hy
  subst e
  obtain ⟨v, h3, h4⟩ := t2.get hd
  have h5 := hy vs h2
  rw [h3] at h5
  cases h5
  exact ⟨M2, r, .refl, h4⟩
theorem itt_ok {a : Addr} {vs : List V} {l : List D} {M : Mp} {n : Nat} (hf : SqT G.K M.F a vs) (t : RpL G M n l vs) : ItOk G (Itt G.K a) l none M n := by
  intro M2 S2 H2 r u _ i
  have h2 : SqT G.K H2 a vs := sqT_up r.sub (sqT_up u.F hf)
  have t2 := t.up u
  have hl := t2.length
  refine ⟨fun hi => ⟨vs, vs[i], h2, List.getElem?_eq_getElem (by omega)⟩, fun hi => ⟨vs, h2, by omega⟩, fun x H' d hd hy => ?_⟩
  obtain ⟨e, hy⟩ := hy
  subst e
  obtain ⟨v, h3, h4⟩ := t2.get hd
  have h5 := hy vs h2
  rw [h3] at h5
  cases h5
  exact ⟨M2, r, .refl, h4⟩
/-- a list of the store, which stays as it is -/
theorem itr_ok {a : Nat} {l : List D} {M : Mp} {n : Nat} (ha : a < n) : ItOk G (Itl G.K (M.m a)) l (some (a, l)) M n := by
  intro M2 S2 H2 r u hk i
  have hk' : S2[a]? = some (.lst l) := hk
  obtain ⟨⟨vs, e2, t2⟩, _⟩ := r.obj a _ hk'
  rw [u.m a ha] at e2
  have h2 : SqL G.K H2 (M.m a) vs := SqL.of e2
  have hl := t2.length
  refine ⟨fun hi => ⟨vs, vs[i], h2, List.getElem?_eq_getElem (by omega)⟩, fun hi => ⟨vs, h2, by omega⟩, fun x H' d hd hy => ?_⟩
  obtain ⟨e, hy⟩ := hy
  subst e
  obtain ⟨v, h3, h4⟩ := t2.get hd
  have h5 := hy vs h2
  rw [h3] at h5
  cases h5
  exact ⟨M2, r, .refl, h4⟩
theorem i_e {e : Expr} {fe : Env → Store → Option (D × Store)} (hK : X.K = G.K) (he : PE X e (tEf G fe)) : PIf X G tg e (fun ρ S => (fe ρ S).bind fun x => (itemsD x.2 x.1).map fun w => (w, x.2)) := by
  refine ⟨_, pi_or (pi_list he) (pi_tup he), fun σ H R M S ρ w S' rl en h k => ?_⟩
  obtain ⟨⟨x1, x2⟩, hx, h⟩ := Option.bind_eq_some_iff.mp h
  obtain ⟨w', hw, h⟩ := Option.map_eq_some_iff.mp h
  cases h
  cases x1 with
  | tup l =>
    have hw := Option.some.inj (show some (l, none) = some w from hw)
    subst hw
    refine .inr (tEf.mk rl en hx fun v M1 H1 r1 q1 p1 => ?_)
    obtain ⟨p, vs, e1, s, t⟩ := p1
    rw [hK]
    exact ⟨p, e1, ⟨vs, sqT_up r1.sub s⟩, k _ M1 H1 r1 q1 (itt_ok s t) True.intro⟩
  | lst l =>
    have hw := Option.some.inj (show some (l, none) = some w from hw)
    subst hw
    refine .inl (tEf.mk rl en hx fun v M1 H1 r1 q1 p1 => ?_)
    obtain ⟨p, vs, e1, s, t⟩ := p1
    rw [hK]
    exact ⟨p, e1, ⟨vs, SqL.of (r1.sub _ _ s)⟩, k _ M1 H1 r1 q1 (itl_ok s t) True.intro⟩
  | ref a =>
    have hw : (match x2[a]? with | some (.lst l) => some (l, some (a, l)) | _ => none) = some w := hw
    split at hw
    · rename_i l hl
      cases hw
      refine .inl (tEf.mk rl en hx fun v M1 H1 r1 q1 p1 => ?_)
      obtain ⟨ha, e1⟩ := p1
      obtain ⟨⟨vs, e2, t2⟩, _⟩ := r1.obj a _ hl
      rw [hK]
      exact ⟨M1.m a, e1, ⟨vs, SqL.of e2⟩, k _ M1 H1 r1 q1 (itr_ok ha) hl⟩
    · cases hw
  | _ => exact nn hw
theorem range_ok {lo hi : Int} {M : Mp} {n : Nat} : ItOk G (Itr lo (hi - lo).toNat) (rangeL lo hi) none M n := by
  intro M2 S2 H2 r u _ i
  have hl : (rangeL lo hi).length = (hi - lo).toNat := by unfold rangeL; rw [List.length_map, List.length_range]
  refine ⟨fun h => by rw [hl] at h; exact h, fun h => by rw [hl] at h; exact h, fun x H' d hd hy => ?_⟩
  obtain ⟨e, hy⟩ := hy
  subst e
  refine ⟨M2, r, .refl, ?_⟩
  unfold rangeL at hd
  rw [List.getElem?_map] at hd
  obtain ⟨j, hj, e⟩ := Option.map_eq_some_iff.mp hd
  have hj2 : j = i := by
    obtain ⟨h1, h2⟩ := List.getElem?_eq_some_iff.mp hj
    rw [List.getElem_range] at h2
    exact h2.symm
  rw [← e, hj2]
  exact hy
theorem rgOk_of {a b : Int} (h : rgOk a b = true) : -(2 ^ 62) ≤ a ∧ a < 2 ^ 62 ∧ -(2 ^ 62) ≤ b ∧ b < 2 ^ 62 := by
  unfold rgOk at h
  simp only [Bool.and_eq_true, decide_eq_true_eq] at h
  exact ⟨h.1.1.1, h.1.1.2, h.1.2, h.2⟩
theorem i_range1 {a : Expr} {fa : Env → Store → Option (D × Store)} {p pos : Pos} (hg : Gl X "range") (hm : X.mg "range" = none) (ha : PE X a (tEf G fa)) (hs : notStar a = true) :
    PIf X G tg (.Call (.Name "range" p) [a] [] pos) (fun ρ S => (fa ρ S).bind fun x => match x with | (.int n, S1) => if rgOk 0 n then some ((rangeL 0 n, none), S1) else none | _ => none) := by
  refine ⟨_, pi_range1 hg hm (pa_cons ha pa_nil (star_cons hs)) (star_cons hs), fun σ H R M S ρ w S' rl en h k => ?_⟩
  obtain ⟨⟨x1, x2⟩, hx, h2⟩ := Option.bind_eq_some_iff.mp h
  clear h
  have h := h2
  clear h2
  cases x1 <;> first | exact nn h | skip
  rename_i n
  have h : (if rgOk 0 n then some ((rangeL 0 n, none), x2) else none) = some (w, S') := h
  split at h
  · rename_i c
    cases h
    obtain ⟨_, _, c3, c4⟩ := rgOk_of c
    refine tEf.mk rl en hx fun v M1 H1 r1 q1 p1 => ⟨n, by rw [show v = V.int n from p1], c3, c4, ?_⟩
    have z := k (Itr 0 (n - 0).toNat) M1 H1 r1 q1 range_ok True.intro
    rw [Int.sub_zero] at z
    exact z
  · cases h
theorem i_range2 {a b : Expr} {fa fb : Env → Store → Option (D × Store)} {p pos : Pos} (hg : Gl X "range") (hm : X.mg "range" = none) (ha : PE X a (tEf G fa)) (hb : PE X b (tEf G fb)) (hs : notStar a = true) (hs2 : notStar b = true) :
    PIf X G tg (.Call (.Name "range" p) [a, b] [] pos) (fun ρ S => (fa ρ S).bind fun x => (fb ρ x.2).bind fun y => match x.1, y.1 with | .int i, .int j => if rgOk i j then some ((rangeL i j, none), y.2) else none | _, _ => none) := by
  refine ⟨_, pi_range2 hg hm (pa_cons ha (pa_cons hb pa_nil (star_cons hs2)) (star_cons hs)) (by rw [star_cons hs, star_cons hs2] <;> rfl) (star_cons hs2), fun σ H R M S ρ w S' rl en h k => ?_⟩
  obtain ⟨⟨x1, x2⟩, hx, h2⟩ := Option.bind_eq_some_iff.mp h
  obtain ⟨⟨y1, y2⟩, hy, h3⟩ := Option.bind_eq_some_iff.mp h2
  clear h h2
  have h := h3
  clear h3
  cases x1 <;> cases y1 <;> first | exact nn h | skip
  rename_i i j
  have h : (if rgOk i j then some ((rangeL i j, none), y2) else none) = some (w, S') := h
  split at h
  · rename_i c
    cases h
    refine tEf.mk rl en hx fun v M1 H1 r1 q1 p1 => tEf.mk r1 (en.ext q1) hy fun u M2 H2 r2 q2 p2 => ⟨i, j, by rw [show v = V.int i from p1, show u = V.int j from p2], rgOk_of c, ?_⟩
    exact k _ M2 H2 r2 (q1.trans q2) range_ok True.intro
  · cases h
theorem rev_ok {a : Addr} {vs : List V} {l : List D} {M : Mp} {n : Nat} (hf : M.F a = some (.lst vs)) (t : RpL G M n l vs) : ItOk G (Itv G.K a vs.length) l.reverse none M n := by
  intro M2 S2 H2 r u _ i
  have h2 : SqL G.K H2 a vs := SqL.of (r.sub _ _ (u.F _ _ hf))
  have t2 := t.up u
  have hl := t2.length
  refine ⟨fun hi => ?_, fun hi => by rw [List.length_reverse] at hi; show vs.length ≤ i; omega, fun x H' d hd hy => ?_⟩
  · rw [List.length_reverse] at hi
    exact ⟨by omega, vs, vs[vs.length - 1 - i]'(by omega), h2, List.getElem?_eq_getElem (by omega)⟩
  · obtain ⟨e, hy⟩ := hy
    subst e
    have hi : i < l.length := by
      have := (List.getElem?_eq_some_iff.mp hd).1
      rwa [List.length_reverse] at this
    rw [List.getElem?_reverse hi] at hd
    obtain ⟨v, h3, h4⟩ := t2.get hd
    have h5 := hy vs h2
    rw [← hl, h3] at h5
    cases h5
    exact ⟨M2, r, .refl, h4⟩
theorem revT_ok {a : Addr} {vs : List V} {l : List D} {M : Mp} {n : Nat} (hf : SqT G.K M.F a vs) (t : RpL G M n l vs) : ItOk G (RT.ItvT G.K a vs.length) l.reverse none M n := by
  intro M2 S2 H2 r u _ i
  have h2 : SqT G.K H2 a vs := sqT_up r.sub (sqT_up u.F hf)
  have t2 := t.up u
  have hl := t2.length
  refine ⟨fun hi => ?_, fun hi => by rw [List.length_reverse] at hi; show vs.length ≤ i; omega, fun x H' d hd hy => ?_⟩
  · rw [List.length_reverse] at hi
    exact ⟨by omega, vs, vs[vs.length - 1 - i]'(by omega), h2, List.getElem?_eq_getElem (by omega)⟩
  · obtain ⟨e, hy⟩ := hy
    subst e
    have hi : i < l.length := by
      have := (List.getElem?_eq_some_iff.mp hd).1
      rwa [List.length_reverse] at this
    rw [List.getElem?_reverse hi] at hd
    obtain ⟨v, h3, h4⟩ := t2.get hd
    have h5 := hy vs h2
    rw [← hl, h3] at h5
    cases h5
    exact ⟨M2, r, .refl, h4⟩
theorem i_rev {a : Expr} {fa : Env → Store → Option (D × Store)} {p pos : Pos} (hK : X.K = G.K) (hg : Gl X "reversed") (hm : X.mg "reversed" = none) (ha : PE X a (tEf G fa)) (hs : notStar a = true) :
    PIf X G tg (.Call (.Name "reversed" p) [a] [] pos) (fun ρ S => (fa ρ S).bind fun x => match x.1 with | .lst l => some ((l.reverse, none), x.2) | .tup l => some ((l.reverse, none), x.2) | _ => none) := by
  refine ⟨_, RT.pi_revA hg hm ha (star_cons hs), fun σ H R M S ρ w S' rl en h k => ?_⟩
  obtain ⟨⟨x1, x2⟩, hx, h2⟩ := Option.bind_eq_some_iff.mp h
  clear h
  have h := h2
  clear h2
  cases x1 <;> first | exact nn h | skip
  · rename_i l
    have h := Option.some.inj (show some ((l.reverse, none), x2) = some (w, S') from h)
    cases h
    refine tEf.mk rl en hx fun v M1 H1 r1 q1 p1 => ?_
    obtain ⟨p, vs, e1, s, t⟩ := p1
    rw [hK]
    exact ⟨p, vs, e1, .inr ⟨sqT_up r1.sub s, k _ M1 H1 r1 q1 (revT_ok s t) True.intro⟩⟩
  · rename_i l
    have h := Option.some.inj (show some ((l.reverse, none), x2) = some (w, S') from h)
    cases h
    refine tEf.mk rl en hx fun v M1 H1 r1 q1 p1 => ?_
    obtain ⟨p, vs, e1, s, t⟩ := p1
    rw [hK]
    exact ⟨p, vs, e1, .inl ⟨SqL.of (r1.sub _ _ s), k _ M1 H1 r1 q1 (rev_ok s t) True.intro⟩⟩
theorem zip_get : ∀ {l l' : List D} {i : Nat} {d : D}, (zipL l l')[i]? = some d → ∃ x y, l[i]? = some x ∧ l'[i]? = some y ∧ d = .tup [x, y]
  | [], _, _, _, h => by cases h
  | _ :: _, [], _, _, h => by cases h
  | x :: xs, y :: ys, 0, d, h => ⟨x, y, rfl, rfl, (Option.some.inj h).symm⟩
  | x :: xs, y :: ys, i + 1, d, h => zip_get (l := xs) (l' := ys) (i := i) (by simpa [zipL] using h)
theorem zip_len : ∀ {l l' : List D}, l.length = l'.length → (zipL l l').length = l.length
  | [], _, _ => by simp [zipL]
  | _ :: _, [], h => by simp at h
  | x :: xs, y :: ys, h => by
    show (zipL xs ys).length + 1 = xs.length + 1
    rw [zip_len (by simpa using h)]
theorem pair_new {M : Mp} {S : Store} {H : Hp} {T : Addr} {x y : D} {v w : V} (r : Rel G M S H) (hT : H T = none) (px : Rp G M S.length x v) (py : Rp G M S.length y w) :
    ∃ M', Rel G M' S (upd H T (.tup [v, w])) ∧ Ext M S H M' S (upd H T (.tup [v, w])) ∧ Rp G M' S.length (.tup [x, y]) (.ref T) := by
  obtain ⟨r2, x2⟩ := rel_fin (o := .tup [v, w]) r hT
  exact ⟨_, r2, x2, T, [v, w], rfl, .inl (.inl upd_same), RpL.cons (px.up x2.up) (RpL.cons (py.up x2.up) RpL.nil)⟩
theorem zip_ok {a b : Addr} {vs ws : List V} {l l' : List D} {M : Mp} {n : Nat} (hf : M.F a = some (.lst vs)) (hf' : M.F b = some (.lst ws)) (t : RpL G M n l vs) (t' : RpL G M n l' ws) (hll : l.length = l'.length) : ItOk G (Itz G.K a b) (zipL l l') none M n := by
  intro M2 S2 H2 r u _ i
  have h1 : SqL G.K H2 a vs := SqL.of (r.sub _ _ (u.F _ _ hf))
  have h2 : SqL G.K H2 b ws := SqL.of (r.sub _ _ (u.F _ _ hf'))
  have t1 := t.up u
  have t2 := t'.up u
  have hl1 := t1.length
  have hl2 := t2.length
  have hz := zip_len hll
  refine ⟨fun hi => ⟨vs, ws, vs[i]'(by omega), ws[i]'(by omega), h1, h2, List.getElem?_eq_getElem (by omega), List.getElem?_eq_getElem (by omega)⟩, fun hi => ⟨vs, ws, h1, h2, .inl (by omega)⟩, fun x H' d hd hy => ?_⟩
  obtain ⟨T, v, w, ev, hT, eH, g1, g2⟩ := hy
  obtain ⟨x', y', e1, e2, e3⟩ := zip_get hd
  obtain ⟨v', a1, a2⟩ := t1.get e1
  obtain ⟨w', b1, b2⟩ := t2.get e2
  have c1 := g1 vs h1
  have c2 := g2 ws h2
  rw [a1] at c1
  rw [b1] at c2
  cases c1
  cases c2
  rw [eH, ev, e3]
  exact pair_new r hT a2 b2
theorem zipT_ok {a b : Addr} {vs ws : List V} {l l' : List D} {M : Mp} {n : Nat} (hf : SqT G.K M.F a vs) (hf' : SqT G.K M.F b ws) (t : RpL G M n l vs) (t' : RpL G M n l' ws) (hll : l.length = l'.length) : ItOk G (RZ.ItzT G.K a b) (zipL l l') none M n := by
  intro M2 S2 H2 r u _ i
  have h1 : SqT G.K H2 a vs := sqT_up r.sub (sqT_up u.F hf)
  have h2 : SqT G.K H2 b ws := sqT_up r.sub (sqT_up u.F hf')
  have t1 := t.up u
  have t2 := t'.up u
  have hl1 := t1.length
  have hl2 := t2.length
  have hz := zip_len hll
  refine ⟨fun hi => ⟨vs, ws, vs[i]'(by omega), ws[i]'(by omega), h1, h2, List.getElem?_eq_getElem (by omega), List.getElem?_eq_getElem (by omega)⟩, fun hi => ⟨vs, ws, h1, h2, .inl (by omega)⟩, fun x H' d hd hy => ?_⟩
  obtain ⟨T, v, w, ev, hT, eH, g1, g2⟩ := hy
  obtain ⟨x', y', e1, e2, e3⟩ := zip_get hd
  obtain ⟨v', a1, a2⟩ := t1.get e1
  obtain ⟨w', b1, b2⟩ := t2.get e2
  have c1 := g1 vs h1
  have c2 := g2 ws h2
  rw [a1] at c1
  rw [b1] at c2
  cases c1
  cases c2
  rw [eH, ev, e3]
  exact pair_new r hT a2 b2
theorem i_zip {elts : List Expr} {kk : Nat} {tpos : Pos} {a b : Expr} {fa fb : Env → Store → Option (D × Store)} {p pos : Pos} (hK : X.K = G.K) (hg : Gl X "zip") (hm : X.mg "zip" = none) (ha : PE X a (tEf G fa)) (hb : PE X b (tEf G fb)) (hs : notStar a = true) (hs2 : notStar b = true) :
    PIf X G (.Tuple elts kk tpos) (.Call (.Name "zip" p) [a, b] [] pos) (fun ρ S => (fa ρ S).bind fun x => (fb ρ x.2).bind fun y => match x.1, y.1 with
      | .lst l, .lst l' => if l.length = l'.length then some ((zipL l l', none), y.2) else none
      | .tup l, .tup l' => if l.length = l'.length then some ((zipL l l', none), y.2) else none
      | _, _ => none) := by
  refine ⟨_, RZ.pi_zipA hg hm (pa_cons ha (pa_cons hb pa_nil (star_cons hs2)) (star_cons hs)) (star_cons hs) (plain_any (by rw [List.all_cons, hs2] <;> rfl)), fun σ H R M S ρ w S' rl en h k => ?_⟩
  obtain ⟨⟨x1, x2⟩, hx, h2⟩ := Option.bind_eq_some_iff.mp h
  obtain ⟨⟨y1, y2⟩, hy, h3⟩ := Option.bind_eq_some_iff.mp h2
  clear h h2
  have h := h3
  clear h3
  cases x1 <;> cases y1 <;> first | exact nn h | skip
  · rename_i l l'
    have h : (if l.length = l'.length then some ((zipL l l', none), y2) else none) = some (w, S') := h
    split at h
    · rename_i c
      cases h
      refine tEf.mk rl en hx fun v M1 H1 r1 q1 p1 => tEf.mk r1 (en.ext q1) hy fun u M2 H2 r2 q2 p2 => ?_
      obtain ⟨p, vs, e1, s1, t1⟩ := p1.up q2.up
      obtain ⟨q, ws, e2, s2, t2⟩ := p2
      rw [hK]
      exact ⟨p, q, vs, ws, by rw [e1, e2], .inr ⟨sqT_up r2.sub s1, sqT_up r2.sub s2, k _ M2 H2 r2 (q1.trans q2) (zipT_ok s1 s2 t1 t2 c) True.intro⟩⟩
    · cases h
  · rename_i l l'
    have h : (if l.length = l'.length then some ((zipL l l', none), y2) else none) = some (w, S') := h
    split at h
    · rename_i c
      cases h
      refine tEf.mk rl en hx fun v M1 H1 r1 q1 p1 => tEf.mk r1 (en.ext q1) hy fun u M2 H2 r2 q2 p2 => ?_
      obtain ⟨p, vs, e1, s1, t1⟩ := p1.up q2.up
      obtain ⟨q, ws, e2, s2, t2⟩ := p2
      rw [hK]
      exact ⟨p, q, vs, ws, by rw [e1, e2], .inl ⟨SqL.of (r2.sub _ _ s1), SqL.of (r2.sub _ _ s2), k _ M2 H2 r2 (q1.trans q2) (zip_ok s1 s2 t1 t2 c) True.intro⟩⟩
    · cases h
end

/-! ### targets -/
def gNames : List Nat → TGs
  | [] => gNil
  | i :: is => gCons (gName i) (gNames is)
/-- the target of a loop: a name, or several in a tuple -/
def gOf (K : PySem.W.Frag) (one : Bool) (is : List Nat) : TG := match one, is with
  | true, [i] => gName i
  | _, is => gTup K is.length (gNames is)
section
variable {G : Gx} {M : Mp} {S : Store} {H : Hp}
theorem putVs_read : ∀ {is : List Nat} {ds : List D} {vs : List V} {σ : L2.St} {ρ ρ' : Env} {Q : L2.St → Hp → Prop}, EnvR G M S H σ ρ → RpL G M S.length ds vs → (∀ i ∈ is, i < ρ.length) → putVs ρ is ds = some ρ' →
    (∀ σ', EnvR G M S H σ' ρ' → σ'.length = σ.length → (∀ j, j ∉ is → σ'[j]? = σ[j]?) → Q σ' H) → gNames is vs σ H Q
  | [], [], vs, σ, ρ, ρ', Q, e, p, hi, h, k => by
    cases h
    exact ⟨p, k σ e rfl fun _ _ => rfl⟩
  | [], _ :: _, _, _, _, _, _, _, _, _, h, _ => nn h
  | _ :: _, [], _, _, _, _, _, _, _, _, h, _ => nn h
  | i :: is, d :: ds, vs, σ, ρ, ρ', Q, e, p, hi, h, k => by
    obtain ⟨v, r, ev, pv, pr⟩ := p
    have h : putVs (putV ρ i d) is ds = some ρ' := h
    have hl : i < ρ.length := hi i List.mem_cons_self
    have e2 := e.putV hl pv
    refine ⟨v, r, ev, ?_⟩
    show gNames is r (σ.set i (some v)) H Q
    refine putVs_read e2 pr (fun j hj => by rw [show (putV ρ i d).length = ρ.length from List.length_set]; exact hi j (List.mem_cons_of_mem _ hj)) h fun σ' e' hl' hs => k σ' e' (by rw [hl', List.length_set]) fun j hj => ?_
    rw [hs j fun z => hj (List.mem_cons_of_mem _ z), List.getElem?_set_ne fun z => hj (by rw [z]; exact List.mem_cons_self)]
theorem putVs_len : ∀ {is : List Nat} {ds : List D} {ρ ρ' : Env}, putVs ρ is ds = some ρ' → ds.length = is.length
  | [], [], _, _, _ => rfl
  | [], _ :: _, _, _, h => nn h
  | _ :: _, [], _, _, h => nn h
  | i :: is, d :: ds, ρ, ρ', h => congrArg (· + 1) (putVs_len (show putVs (putV ρ i d) is ds = some ρ' from h))
theorem putT_read {one : Bool} {is : List Nat} {d : D} {x : V} {σ : L2.St} {ρ ρ' : Env} {Q : L2.St → Hp → Prop} (r : Rel G M S H) (e : EnvR G M S H σ ρ) (p : Rp G M S.length d x) (hi : ∀ i ∈ is, i < ρ.length) (h : putT ρ one is d = some ρ')
    (k : ∀ σ', EnvR G M S H σ' ρ' → σ'.length = σ.length → (∀ j, j ∉ is → σ'[j]? = σ[j]?) → Q σ' H) : gOf G.K one is x σ H Q := by
  cases one with
  | true =>
    match is, h with
    | [i], h =>
      have h := Option.some.inj (show some (putV ρ i d) = some ρ' from h)
      subst h
      refine k _ (e.putV (hi i (by simp)) p) List.length_set fun j hj => ?_
      rw [List.getElem?_set_ne fun z => hj (by rw [z]; simp)]
    | [], h => exact nn h
    | _ :: _ :: _, h => exact nn h
  | false =>
    cases d <;> first | exact nn h | skip
    rename_i ds
    obtain ⟨q, vs, e1, s, t⟩ := p
    have h : putVs ρ is ds = some ρ' := h
    have hlen : vs.length = is.length := by
      rw [← t.length]
      exact putVs_len h
    refine ⟨q, vs, e1, sqT_up r.sub s, hlen, putVs_read e t hi h k⟩
end
/-- how a target is written -/
def tgOk (N : List Str) (nm : Str → Bool) : Bool → List Nat → Expr → Bool
  | true, [i], .Name x _ => decide (N[i]? = some x) && nm x
  | false, is, .Tuple es _ _ => decide (es.length = is.length) && (es.zip is).all fun p => match p.1 with | .Name x _ => decide (N[p.2]? = some x) && nm x | _ => false
  | _, _, _ => false
theorem pgs_of {X : Cx} {nm : Str → Bool} (hN : X.N.Nodup) (hn : ∀ x, nm x = true → Loc X.env.scope x ∧ (X.fn x = true ∨ X.env.scope.names.lookup x = some .local)) : ∀ {es : List Expr} {is : List Nat}, es.length = is.length →
    ((es.zip is).all fun p => match p.1 with | .Name x _ => decide (X.N[p.2]? = some x) && nm x | _ => false) = true → PGs X es (gNames is) ∧ (assignEach es X.env).length = is.length ∧ (assignEach es X.env).findIdx? (·.1) = none
  | [], [], _, _ => ⟨pgs_nil, rfl, rfl⟩
  | [], _ :: _, h, _ => by simp at h
  | _ :: _, [], h, _ => by simp at h
  | e :: es, i :: is, hl, h => by
    rw [List.zip_cons_cons, List.all_cons, Bool.and_eq_true] at h
    obtain ⟨h1, h2⟩ := h
    obtain ⟨q1, q2, q3⟩ := pgs_of hN hn (es := es) (is := is) (by simpa using hl) h2
    cases e with
    | Name x pos =>
      have h1 : (decide (X.N[i]? = some x) && nm x) = true := h1
      rw [Bool.and_eq_true] at h1
      obtain ⟨a1, a2⟩ := hn x h1.2
      refine ⟨pgs_cons (pg_name hN (of_decide_eq_true h1.1) a1 a2) q1 rfl, ?_, ?_⟩
      · show (assignEach es X.env).length + 1 = is.length + 1
        rw [q2]
      · show ((false, assign (.Name x pos) X.env) :: assignEach es X.env).findIdx? (·.1) = none
        rw [List.findIdx?_cons, q3] <;> rfl
    | _ => exact nb h1
/-- several names, of a list -/
theorem pg_ofL {X : Cx} {nm : Str → Bool} {is : List Nat} {tg : Expr} (hc : X.calm = true) (hN : X.N.Nodup) (hn : ∀ x, nm x = true → Loc X.env.scope x ∧ (X.fn x = true ∨ X.env.scope.names.lookup x = some .local)) (h : tgOk X.N nm false is tg = true) :
    PG X tg (gLst X.K is.length (gNames is)) := by
  cases tg <;> first | exact nb h | skip
  rename_i es kk pos
  have h : (decide (es.length = is.length) && (es.zip is).all fun p => match p.1 with | .Name x _ => decide (X.N[p.2]? = some x) && nm x | _ => false) = true := h
  rw [Bool.and_eq_true] at h
  obtain ⟨q1, q2, q3⟩ := pgs_of hN hn (of_decide_eq_true h.1) h.2
  exact pg_lst hc q1 q2 q3
theorem pg_of {X : Cx} {nm : Str → Bool} {one : Bool} {is : List Nat} {tg : Expr} (hc : X.calm = true) (hN : X.N.Nodup) (hn : ∀ x, nm x = true → Loc X.env.scope x ∧ (X.fn x = true ∨ X.env.scope.names.lookup x = some .local)) (h : tgOk X.N nm one is tg = true) :
    PG X tg (gOf X.K one is) ∧ ∀ i ∈ is, i < X.N.length := by
  cases one with
  | true =>
    match is, h with
    | [i], h =>
      cases tg with
      | Name x pos =>
        have h : (decide (X.N[i]? = some x) && nm x) = true := h
        rw [Bool.and_eq_true] at h
        obtain ⟨a1, a2⟩ := hn x h.2
        have hi := of_decide_eq_true h.1
        exact ⟨pg_name hN hi a1 a2, fun j hj => by rw [List.mem_singleton.mp hj]; exact (List.getElem?_eq_some_iff.mp hi).1⟩
      | _ => exact nb h
    | [], h => cases tg <;> exact nb h
    | _ :: _ :: _, h => cases tg <;> exact nb h
  | false =>
    cases tg <;> first | exact nb h | skip
    rename_i es kk pos
    have h : (decide (es.length = is.length) && (es.zip is).all fun p => match p.1 with | .Name x _ => decide (X.N[p.2]? = some x) && nm x | _ => false) = true := h
    rw [Bool.and_eq_true] at h
    have hl := of_decide_eq_true h.1
    obtain ⟨q1, q2, q3⟩ := pgs_of hN hn hl h.2
    refine ⟨pg_tup hc q1 q2 q3, fun j hj => ?_⟩
    obtain ⟨n, hn1, hn2⟩ := List.getElem_of_mem hj
    have hz : (es.zip is)[n]? = some (es[n]'(by omega), is[n]) := by
      rw [List.getElem?_eq_getElem (by rw [List.length_zip]; omega), List.getElem_zip]
    have hm := List.all_eq_true.mp h.2 _ (List.mem_of_getElem? hz)
    simp only at hm
    split at hm
    · rename_i x p e
      rw [Bool.and_eq_true] at hm
      rw [← hn2]
      exact (List.getElem?_eq_some_iff.mp (of_decide_eq_true hm.1)).1
    · cases hm

/-! ### comprehensions -/
theorem wipeE_length : ∀ (ρ : Env) (vs : List Nat), (wipeE ρ vs).length = ρ.length
  | _, [] => rfl
  | ρ, v :: vs => by unfold wipeE; rw [List.length_set, wipeE_length ρ vs]
theorem EnvR.wipe {G : Gx} {M : Mp} {S : Store} {H : Hp} {σ : L2.St} {ρ : Env} (e : EnvR G M S H σ ρ) : ∀ vs : List Nat, EnvR G M S H (L2.wipe σ vs) (wipeE ρ vs)
  | [] => e
  | v :: vs => by
    have ih := e.wipe vs
    have un : ∀ (j : Nat) (l : List D), (wipeE ρ (v :: vs))[j]? = some (.own l) → v ≠ j ∧ (wipeE ρ vs)[j]? = some (.own l) := fun j l h => by
      have h : ((wipeE ρ vs).set v .un)[j]? = some (.own l) := h
      by_cases q : v = j
      · subst q
        by_cases hv : v < (wipeE ρ vs).length
        · rw [List.getElem?_set_self hv] at h; cases h
        · rw [List.getElem?_eq_none (by rw [List.length_set]; omega)] at h; cases h
      · rw [List.getElem?_set_ne q] at h
        exact ⟨q, h⟩
    refine ⟨?_, fun j s hj => ?_, fun i j l l' p h1 h2 h3 h4 => ?_⟩
    · show ((wipeE ρ vs).set v .un).length = ((L2.wipe σ vs).set v none).length
      rw [List.length_set, List.length_set, ih.len]
    · have hj : ((wipeE ρ vs).set v .un)[j]? = some s := hj
      show SlotR G M S H ((L2.wipe σ vs).set v none)[j]? s
      by_cases q : v = j
      · subst q
        by_cases hv : v < (wipeE ρ vs).length
        · rw [List.getElem?_set_self hv] at hj
          cases hj
          exact True.intro
        · rw [List.getElem?_eq_none (by rw [List.length_set]; omega)] at hj; cases hj
      · rw [List.getElem?_set_ne q] at hj ⊢
        exact ih.sl j s hj
    · obtain ⟨n1, g1⟩ := un i l h1
      obtain ⟨n2, g2⟩ := un j l' h2
      have h3 : ((L2.wipe σ vs).set v none)[i]? = some (some (.ref p)) := h3
      have h4 : ((L2.wipe σ vs).set v none)[j]? = some (some (.ref p)) := h4
      rw [List.getElem?_set_ne n1] at h3
      rw [List.getElem?_set_ne n2] at h4
      exact ih.ap i j l l' p g1 g2 h3 h4
theorem wipe_at : ∀ (σ : L2.St) (vs : List Nat) (i : Nat), (L2.wipe σ vs)[i]? = if i ∈ vs ∧ i < σ.length then some none else σ[i]?
  | σ, [], i => by simp [L2.wipe]
  | σ, v :: vs, i => by
    show ((L2.wipe σ vs).set v none)[i]? = _
    rw [List.getElem?_set, wipe_length, wipe_at σ vs i]
    by_cases h : v = i
    · subst h
      by_cases hv : v < σ.length
      · simp [hv]
      · simp [hv]
    · simp [h, Ne.symm h]
theorem wipe_same {σ σ' : L2.St} {vs : List Nat} (hl : σ'.length = σ.length) (h : ∀ j, j ∉ vs → σ'[j]? = (L2.wipe σ vs)[j]?) : L2.wipe σ' vs = L2.wipe σ vs := by
  apply List.ext_getElem?
  intro i
  rw [wipe_at, wipe_at, hl]
  by_cases hi : i ∈ vs
  · by_cases hlt : i < σ.length
    · simp [hi, hlt]
    · rw [if_neg (by simp [hlt]), if_neg (by simp [hlt]), List.getElem?_eq_none (by omega), List.getElem?_eq_none (by omega)]
  · rw [if_neg (by simp [hi]), if_neg (by simp [hi]), h i hi, wipe_at, if_neg (by simp [hi])]
section
variable {X : Cx} {G : Gx}
theorem keptD_iff {src : Option (Nat × List D)} {S : Store} : keptD src S = true ↔ keptP src S := by
  unfold keptD
  exact @decide_eq_true_iff _ (Classical.propDecidable _)
theorem comp_read {tt : TT} {te : TE} {one : Bool} {tg : List Nat} {fi : Env → Store → Option (Bool × Store)} {fe : Env → Store → Option (D × Store)} {w : List D × Option (Nat × List D)} {σ : L2.St} {H1 : Hp} {J : L2.It} {M1 : Mp} {S1 S2 : Store} {ρ : Env} {out : List D} {Q : VK}
    (hN : ∀ i ∈ tg, i < ρ.length) (hT : ∀ σ H Q, tTf G fi σ H Q → tt σ H Q) (hE : ∀ σ H Q, tEf G fe σ H Q → te σ H Q)
    (rl : Rel G M1 S1 H1) (en : EnvR G M1 S1 H1 σ ρ) (io : ItOk G J w.1 w.2 M1 S1.length) (kp : keptP w.2 S1) (hsz : w.1.length ≤ 16777216) (hc : compD (turnC one tg w.2 fi fe ρ) w.1 S1 = some (out, S2))
    (k : ∀ p vs M' H', Rel G M' S2 H' → Ext M1 S1 H1 M' S2 H' → RpL G M' S2.length out vs → H' p = some (.lst vs) → H1 p = none → M'.F p = none → (∀ a, a < S2.length → M'.m a ≠ p) → Q (.ref p) H')
    (D0 : Addr) (hD : H1 D0 = none) : ∃ W : Nat → Nat → Hp → Prop, (∃ m, W 0 m (upd H1 D0 (.lst []))) ∧ ∀ i m H, W i m H →
      (J.stop i H ∧ Q (.ref D0) H) ∨ (J.go i H ∧ ∃ Nx : Hp → Prop, (∀ H', Nx H' → ∃ m', m' < m ∧ W (i + 1) m' H') ∧ ∀ x H', J.yld i H x H' → gOf G.K one tg x (L2.wipe σ tg) H' fun σ2 H2 => L2.wipe σ2 tg = L2.wipe σ tg ∧ tt σ2 H2 fun b H3 =>
        if b = true then te σ2 H3 fun y H4 => ∃ acc, H4 D0 = some (.lst acc) ∧ acc.length < sizeLine ∧ Nx (upd H4 D0 (.lst (acc ++ [y]))) else Nx H3) := by
  obtain ⟨r0, x0, f1, f2⟩ := rel_free (o := .lst []) rl hD
  -- what stands between two turns
  let P : Nat → Hp → Prop := fun i H => i ≤ w.1.length ∧ ∃ (M : Mp) (S : Store) (acc : List D) (vs : List V) (rest : List D), Rel G M S H ∧ Ext M1 S1 (upd H1 D0 (.lst [])) M S (upd H D0 (.lst [])) ∧ H D0 = some (.lst vs) ∧ M.F D0 = none ∧ (∀ a, a < S.length → M.m a ≠ D0) ∧ RpL G M S.length acc vs ∧
    acc.length ≤ i ∧ keptP w.2 S ∧ compD (turnC one tg w.2 fi fe ρ) (w.1.drop i) S = some (rest, S2) ∧ acc ++ rest = out ∧ Up M1 M S1.length S.length ∧ (∀ p o, p ≠ D0 → H1 p = some o → M1.F p = none → (∀ a, a < S1.length → M1.m a ≠ p) → H p = some o ∧ M.F p = none ∧ ∀ a, a < S.length → M.m a ≠ p)
  refine ⟨fun i m H => m = w.1.length - i ∧ P i H, ⟨_, rfl, Nat.zero_le _, M1, S1, [], [], out, r0, ?_, upd_same, f1, f2, RpL.nil, Nat.zero_le _, kp, hc, rfl, .refl, fun p o hp h1 h2 h3 => ⟨by rw [upd_ne hp]; exact h1, h2, h3⟩⟩, ?_⟩
  · rw [upd_upd]; exact .refl
  rintro i m H ⟨rfl, hi, M, S, acc, vs, rest, r, x, hv, g1, g2, pa, hacc, kp2, hcd, hout, up, fg⟩
  obtain ⟨io1, io2, io3⟩ := io M S H r up kp2 i
  by_cases hlt : i < w.1.length
  · -- a turn
    rw [List.drop_eq_getElem_cons hlt] at hcd
    obtain ⟨rr, hr, hcd⟩ := Option.bind_eq_some_iff.mp (show (turnC one tg w.2 fi fe ρ w.1[i] S).bind _ = _ from hcd)
    refine .inr ⟨io1 hlt, P (i + 1), fun H' p' => ⟨w.1.length - (i + 1), by omega, rfl, p'⟩, fun v H' hy => ?_⟩
    obtain ⟨M', r', x', p'⟩ := io3 v H' _ (List.getElem?_eq_getElem hlt) hy
    obtain ⟨ρ1, hρ, hr⟩ := Option.bind_eq_some_iff.mp (show (putT (wipeE ρ tg) one tg w.1[i]).bind _ = _ from hr)
    obtain ⟨b, hb, hr⟩ := Option.bind_eq_some_iff.mp hr
    obtain ⟨q, hq, hr⟩ := Option.bind_eq_some_iff.mp hr
    split at hr
    · rename_i ck
      cases hr
      have ck := keptD_iff.mp ck
      -- the names
      have en0 : EnvR G M S H σ ρ := by
        refine ⟨en.len, fun j s hj => ?_, en.ap⟩
        have z := en.sl j s hj
        cases s with
        | un => exact True.intro
        | val d =>
          obtain ⟨u, z1, z2⟩ := z
          exact ⟨u, z1, z2.up up⟩
        | own l =>
          obtain ⟨p, us, z1, z2, z3, z4, z5⟩ := z
          obtain ⟨y1, y2, y3⟩ := fg p _ (fun e => by rw [e, hD] at z2; cases z2) z2 z4 z5
          exact ⟨p, us, z1, y1, z3.up up, y2, y3⟩
      have en1 := (en0.ext x').wipe tg
      refine putT_read r' en1 p' (fun j hj => by rw [wipeE_length]; exact hN j hj) hρ fun σ' e' hl' hs => ⟨wipe_same (by rw [hl', wipe_length]) hs, ?_⟩
      refine hT _ _ _ (tTf.mk r' e' hb fun M3 H3 r3 x3 => ?_)
      obtain ⟨b1, b2⟩ := b
      -- the new list is nobody's, all the way
      have dd : ∀ {M' S' H'}, Ext M S H M' S' H' → H' D0 = some (.lst vs) ∧ M'.F D0 = none ∧ ∀ a, a < S'.length → M'.m a ≠ D0 := fun z => z.fgn D0 _ hv g1 g2
      have ff : ∀ {M' : Mp} {S' : Store} {H' : Hp}, Ext M S H M' S' H' → ∀ p o, p ≠ D0 → H1 p = some o → M1.F p = none → (∀ a, a < S1.length → M1.m a ≠ p) → H' p = some o ∧ M'.F p = none ∧ ∀ a, a < S'.length → M'.m a ≠ p := fun z p o hp h1 h2 h3 =>
        let ⟨y1, y2, y3⟩ := fg p o hp h1 h2 h3
        z.fgn p o y1 y2 y3
      cases b1 with
      | true =>
        obtain ⟨y, hy2, hq⟩ := Option.map_eq_some_iff.mp (show (fe ρ1 b2).map (fun y => ((some y.1, y.2) : Option D × Store)) = some rr from hq)
        subst hq
        refine iteT (hE _ _ _ (tEf.mk r3 (e'.ext x3) hy2 fun u M4 H4 r4 x4 p4 => ?_))
        have xx := (x'.trans x3).trans x4
        obtain ⟨d1, d2, d3⟩ := dd xx
        obtain ⟨qq, hqq, hcd⟩ := Option.map_eq_some_iff.mp (show (compD (turnC one tg w.2 fi fe ρ) (w.1.drop (i + 1)) y.2).map (fun q => (y.1 :: q.1, q.2)) = some (rest, S2) from hcd)
        have pa4 := (pa.up xx.up).append (RpL.cons p4 RpL.nil)
        have hlen := pa.length
        refine ⟨vs, d1, by rw [sizeLine_eq]; omega, by omega, M4, y.2, acc ++ [y.1], vs ++ [u], qq.1, rel_chg r4 d2 d3, ?_, upd_same, d2, d3, pa4, by rw [List.length_append]; show acc.length + 1 ≤ i + 1; omega, ck, ?_, ?_, up.trans xx.up, fun p o hp h1 h2 h3 => ?_⟩
        · exact ⟨up.trans xx.up, fun p o h1 h2 h3 => by
            rw [upd_upd]
            by_cases hp : p = D0
            · subst hp
              rw [upd_same] at h1 ⊢
              exact ⟨h1, d2, d3⟩
            · rw [upd_ne hp] at h1 ⊢
              exact ff xx p o hp h1 h2 h3⟩
        · rw [hqq]
          have e2 : qq.2 = S2 := (congrArg Prod.snd hcd)
          rw [← e2]
        · have e1 : y.1 :: qq.1 = rest := congrArg Prod.fst hcd
          rw [← hout, ← e1, List.append_assoc] <;> rfl
        · rw [upd_ne hp]
          exact ff xx p o hp h1 h2 h3
      | false =>
        have hq := Option.some.inj (show some ((none : Option D), b2) = some rr from hq)
        subst hq
        have xx := x'.trans x3
        obtain ⟨d1, d2, d3⟩ := dd xx
        refine iteF ⟨by omega, M3, b2, acc, vs, rest, r3, ?_, d1, d2, d3, pa.up xx.up, by omega, ck, hcd, hout, up.trans xx.up, fun p o hp h1 h2 h3 => ff xx p o hp h1 h2 h3⟩
        exact ⟨up.trans xx.up, fun p o h1 h2 h3 => by
          by_cases hp : p = D0
          · subst hp
            rw [upd_same] at h1 ⊢
            exact ⟨h1, d2, d3⟩
          · rw [upd_ne hp] at h1 ⊢
            exact ff xx p o hp h1 h2 h3⟩
    · cases hr
  · -- the end
    have e : i = w.1.length := by omega
    subst e
    rw [List.drop_length] at hcd
    have hcd := Option.some.inj (show some (([] : List D), S) = some (rest, S2) from hcd)
    cases hcd
    rw [List.append_nil] at hout
    subst hout
    refine .inl ⟨io2 (Nat.le_refl _), k D0 vs M H r ⟨up, fun p o h1 h2 h3 => fg p o (fun e => by rw [e, hD] at h1; cases h1) h1 h2 h3⟩ pa hv hD g1 g2⟩
end
end HN

/-! The statements of HN, one rule each. -/
namespace HN
open PySem L2

/-- the list at p is a name's own -/
def Own (σ : L2.St) (ρ : Env) (p : Addr) : Prop := ∃ (i : Nat) (l : List D), ρ[i]? = some (.own l) ∧ σ[i]? = some (some (.ref p))
structure ExtS (M : Mp) (S : Store) (H : Hp) (σ : L2.St) (ρ : Env) (M' : Mp) (S' : Store) (H' : Hp) (σ' : L2.St) (ρ' : Env) : Prop where
  up : Up M M' S.length S'.length
  fgn : ∀ p o, H p = some o → M.F p = none → (∀ a, a < S.length → M.m a ≠ p) → ¬ Own σ ρ p → H' p = some o ∧ M'.F p = none ∧ (∀ a, a < S'.length → M'.m a ≠ p) ∧ ¬ Own σ' ρ' p
structure ExtR (M : Mp) (S : Store) (H : Hp) (σ : L2.St) (ρ : Env) (M' : Mp) (S' : Store) (H' : Hp) : Prop where
  up : Up M M' S.length S'.length
  fgn : ∀ p o, H p = some o → M.F p = none → (∀ a, a < S.length → M.m a ≠ p) → ¬ Own σ ρ p → H' p = some o ∧ M'.F p = none ∧ ∀ a, a < S'.length → M'.m a ≠ p
section
variable {G : Gx} {M M1 M2 : Mp} {S S1 S2 : Store} {H H1 H2 : Hp} {σ σ1 σ2 : L2.St} {ρ ρ1 ρ2 : Env}
theorem ExtS.refl : ExtS M S H σ ρ M S H σ ρ := ⟨.refl, fun p o h1 h2 h3 h4 => ⟨h1, h2, h3, h4⟩⟩
theorem ExtS.trans (a : ExtS M S H σ ρ M1 S1 H1 σ1 ρ1) (b : ExtS M1 S1 H1 σ1 ρ1 M2 S2 H2 σ2 ρ2) : ExtS M S H σ ρ M2 S2 H2 σ2 ρ2 :=
  ⟨a.up.trans b.up, fun p o h1 h2 h3 h4 => let ⟨q1, q2, q3, q4⟩ := a.fgn p o h1 h2 h3 h4; b.fgn p o q1 q2 q3 q4⟩
theorem ExtS.toR (a : ExtS M S H σ ρ M1 S1 H1 σ1 ρ1) (b : ExtR M1 S1 H1 σ1 ρ1 M2 S2 H2) : ExtR M S H σ ρ M2 S2 H2 :=
  ⟨a.up.trans b.up, fun p o h1 h2 h3 h4 => let ⟨q1, q2, q3, q4⟩ := a.fgn p o h1 h2 h3 h4; b.fgn p o q1 q2 q3 q4⟩
theorem Ext.toS (a : Ext M S H M1 S1 H1) : ExtS M S H σ ρ M1 S1 H1 σ ρ := ⟨a.up, fun p o h1 h2 h3 h4 => let ⟨q1, q2, q3⟩ := a.fgn p o h1 h2 h3; ⟨q1, q2, q3, h4⟩⟩
theorem Ext.toR (a : Ext M S H M1 S1 H1) : ExtR M S H σ ρ M1 S1 H1 := ⟨a.up, fun p o h1 h2 h3 _ => a.fgn p o h1 h2 h3⟩
/-- fewer own lists -/
theorem ExtS.less (a : ExtS M S H σ ρ M1 S1 H1 σ1 ρ1) (h : ∀ p, Own σ2 ρ2 p → Own σ1 ρ1 p) : ExtS M S H σ ρ M1 S1 H1 σ2 ρ2 :=
  ⟨a.up, fun p o h1 h2 h3 h4 => let ⟨q1, q2, q3, q4⟩ := a.fgn p o h1 h2 h3 h4; ⟨q1, q2, q3, fun z => q4 (h p z)⟩⟩
theorem own_put {i : Nat} {d : D} {v : V} {p : Addr} (h : Own (σ.set i (some v)) (putV ρ i d) p) (hl : ρ.length = σ.length) : Own σ ρ p := by
  obtain ⟨j, l, h1, h2⟩ := h
  unfold putV at h1
  by_cases q : i = j
  · subst q
    by_cases hi : i < ρ.length
    · rw [List.getElem?_set_self hi] at h1; cases h1
    · rw [List.getElem?_eq_none (by rw [List.length_set]; omega)] at h1; cases h1
  · rw [List.getElem?_set_ne q] at h1 h2
    exact ⟨j, l, h1, h2⟩
/-- a name gets a list of its own at p -/
theorem own_putO {i : Nat} {l : List D} {p q : Addr} (h : Own (σ.set i (some (.ref p))) (ρ.set i (.own l)) q) (hl : ρ.length = σ.length) : q = p ∨ Own σ ρ q := by
  obtain ⟨j, l', h1, h2⟩ := h
  by_cases e : i = j
  · subst e
    by_cases hi : i < ρ.length
    · rw [List.getElem?_set_self (by rw [← hl]; exact hi)] at h2
      cases h2
      exact .inl rfl
    · rw [List.getElem?_eq_none (by rw [List.length_set]; omega)] at h1; cases h1
  · rw [List.getElem?_set_ne e] at h1 h2
    exact .inr ⟨j, l', h1, h2⟩
theorem own_fresh (e : EnvR G M S H σ ρ) {p : Addr} (h : H p = none) : ¬ Own σ ρ p := fun ⟨i, l, h1, h2⟩ => by
  obtain ⟨q, vs, z1, z2, _⟩ := e.sl i _ h1
  rw [h2] at z1
  cases z1
  rw [h] at z2
  cases z2
end

def tSf (G : Gx) (f : Env → Store → Option Fl) : TS := fun D σ H => ∃ (M : Mp) (S : Store) (ρ : Env) (r : Fl), Rel G M S H ∧ EnvR G M S H σ ρ ∧ f ρ S = some r ∧
  match r with
  | .nx ρ' S' => ∀ σ' M' H', Rel G M' S' H' → ExtS M S H σ ρ M' S' H' σ' ρ' → EnvR G M' S' H' σ' ρ' → D.nx σ' H'
  | .rt d S' => ∀ v M' H', Rel G M' S' H' → ExtR M S H σ ρ M' S' H' → Rp G M' S'.length d v → D.rt v H'
section
variable {G : Gx} {M : Mp} {S S' : Store} {ρ ρ' : Env} {σ : L2.St} {H : Hp}
theorem tSf.nx {f : Env → Store → Option Fl} {D : Ends} (r : Rel G M S H) (e : EnvR G M S H σ ρ) (h : f ρ S = some (.nx ρ' S')) (k : ∀ σ' M' H', Rel G M' S' H' → ExtS M S H σ ρ M' S' H' σ' ρ' → EnvR G M' S' H' σ' ρ' → D.nx σ' H') : tSf G f D σ H :=
  ⟨M, S, ρ, _, r, e, h, k⟩
theorem tSf.rt {f : Env → Store → Option Fl} {d : D} {D : Ends} (r : Rel G M S H) (e : EnvR G M S H σ ρ) (h : f ρ S = some (.rt d S')) (k : ∀ v M' H', Rel G M' S' H' → ExtR M S H σ ρ M' S' H' → Rp G M' S'.length d v → D.rt v H') : tSf G f D σ H :=
  ⟨M, S, ρ, _, r, e, h, k⟩
end
def notComp : Expr → Bool
  | .ListComp .. => false
  | .SetComp .. => false
  | .DictComp .. => false
  | _ => true
theorem sw_false {e : Expr} (h : notComp e = true) (t : Option Expr) (l : Nat) (env : PySem.Env) : swapsWith e t l env = pure false := by
  cases e <;> first | rfl | exact nb h
section
variable {X : Cx} {G : Gx}
theorem p_nil : PSs X [] (tSf G fun ρ S => some (.nx ρ S)) := by
  refine pss_weak pss_nil fun D σ H h => ?_
  obtain ⟨M, S, ρ, r, rl, e, h, k⟩ := h
  cases h
  exact k σ M H rl .refl e
theorem p_cons {st : Stmt} {rest : List Stmt} {f g : Env → Store → Option Fl} (h1 : PS X st (tSf G f)) (h2 : PSs X rest (tSf G g)) : PSs X (st :: rest) (tSf G fun ρ S => (f ρ S).bind fun r => match r with | .nx ρ1 S1 => g ρ1 S1 | .rt d S1 => some (.rt d S1)) := by
  refine pss_weak (pss_cons h1 h2) fun D σ H h => ?_
  obtain ⟨M, S, ρ, r, rl, e, h, k⟩ := h
  obtain ⟨q, hq, h⟩ := Option.bind_eq_some_iff.mp h
  cases q with
  | nx ρ1 S1 =>
    refine tSf.nx rl e hq fun σ1 M1 H1 r1 x1 e1 => ?_
    cases r with
    | nx ρ2 S2 => exact tSf.nx r1 e1 h fun σ2 M2 H2 r2 x2 e2 => k σ2 M2 H2 r2 (x1.trans x2) e2
    | rt d S2 => exact tSf.rt r1 e1 h fun v M2 H2 r2 x2 p2 => k v M2 H2 r2 (x1.toR x2) p2
  | rt d S1 =>
    cases h
    exact tSf.rt rl e hq k
/-- pseudo statements: nothing is run -/
theorem p_ghost {rest : List Stmt} {f g : Env → Store → Option Fl} (h2 : PSs X rest (tSf G g))
    (hf : ∀ ρ S r, f ρ S = some r → ∃ ρ1 S1, r = .nx ρ1 S1 ∧ ∀ M H σ, Rel G M S H → EnvR G M S H σ ρ → ∃ M1, Rel G M1 S1 H ∧ ExtS M S H σ ρ M1 S1 H σ ρ1 ∧ EnvR G M1 S1 H σ ρ1) :
    PSs X rest (tSf G fun ρ S => (f ρ S).bind fun r => match r with | .nx ρ1 S1 => g ρ1 S1 | .rt d S1 => some (.rt d S1)) := by
  refine pss_weak h2 fun D σ H h => ?_
  obtain ⟨M, S, ρ, r, rl, e, h, k⟩ := h
  obtain ⟨q, hq, h⟩ := Option.bind_eq_some_iff.mp h
  obtain ⟨ρ1, S1, e1, hm⟩ := hf ρ S q hq
  subst e1
  obtain ⟨M1, r1, x1, e1⟩ := hm M H σ rl e
  cases r with
  | nx ρ2 S2 => exact tSf.nx r1 e1 h fun σ2 M2 H2 r2 x2 e2 => k σ2 M2 H2 r2 (x1.trans x2) e2
  | rt d S2 => exact tSf.rt r1 e1 h fun v M2 H2 r2 x2 p2 => k v M2 H2 r2 (x1.toR x2) p2
theorem g_freeze {i : Nat} (ρ : Env) (S : Store) (r : Fl) (h : (getO ρ i).map (fun l => Fl.nx (putV ρ i (.lst l)) S) = some r) :
    ∃ ρ1 S1, r = .nx ρ1 S1 ∧ ∀ M H σ, Rel G M S H → EnvR G M S H σ ρ → ∃ M1, Rel G M1 S1 H ∧ ExtS M S H σ ρ M1 S1 H σ ρ1 ∧ EnvR G M1 S1 H σ ρ1 := by
  obtain ⟨l, hl, e⟩ := Option.map_eq_some_iff.mp h
  subst e
  refine ⟨_, _, rfl, fun M H σ rl en => ?_⟩
  obtain ⟨h0, p, vs, h1, h2, h3, h4, h5⟩ := en.getO hl
  obtain ⟨r1, u1⟩ := rel_freeze rl h2 h4 h5
  have hi : i < ρ.length := (List.getElem?_eq_some_iff.mp h0).1
  have ows : ∀ q, Own σ (putV ρ i (.lst l)) q → Own σ ρ q ∧ q ≠ p := fun q hq => by
    obtain ⟨j, l', g1, g2⟩ := hq
    unfold putV at g1
    by_cases e : i = j
    · subst e
      rw [List.getElem?_set_self hi] at g1; cases g1
    · rw [List.getElem?_set_ne e] at g1
      exact ⟨⟨j, l', g1, g2⟩, fun z => e (en.ap i j l l' p h0 g1 h1 (by rw [g2, z]))⟩
  refine ⟨_, r1, ⟨u1, fun q o g1 g2 g3 g4 => ?_⟩, ?_⟩
  · have ne : q ≠ p := fun z => g4 ⟨i, l, h0, by rw [h1, z]⟩
    refine ⟨g1, ?_, g3, fun z => g4 (ows q z).1⟩
    show upd M.F p _ q = none
    rw [upd_ne ne]; exact g2
  · refine ⟨by unfold putV; rw [List.length_set]; exact en.len, fun j s hj => ?_, fun j k l1 l2 q g1 g2 g3 g4 => ?_⟩
    · unfold putV at hj
      by_cases e : i = j
      · subst e
        rw [List.getElem?_set_self hi] at hj
        cases hj
        exact ⟨.ref p, h1, p, vs, rfl, upd_same, h3.up u1⟩
      · rw [List.getElem?_set_ne e] at hj
        have z := en.sl j s hj
        cases s with
        | un => exact True.intro
        | val d =>
          obtain ⟨v, z1, z2⟩ := z
          exact ⟨v, z1, z2.up u1⟩
        | own l' =>
          obtain ⟨q, us, z1, z2, z3, z4, z5⟩ := z
          refine ⟨q, us, z1, z2, z3.up u1, ?_, z5⟩
          show upd M.F p _ q = none
          rw [upd_ne fun w => e (en.ap i j l l' p h0 hj h1 (by rw [z1, w]))]
          exact z4
    · unfold putV at g1 g2
      have n1 : i ≠ j := by
        rintro rfl
        rw [List.getElem?_set_self hi] at g1; cases g1
      have n2 : i ≠ k := by
        rintro rfl
        rw [List.getElem?_set_self hi] at g2; cases g2
      rw [List.getElem?_set_ne n1] at g1
      rw [List.getElem?_set_ne n2] at g2
      exact en.ap j k l1 l2 q g1 g2 g3 g4
theorem g_share {i : Nat} (ρ : Env) (S : Store) (r : Fl) (h : (getO ρ i).map (fun l => Fl.nx (putV ρ i (.ref S.length)) (S ++ [.lst l])) = some r) :
    ∃ ρ1 S1, r = .nx ρ1 S1 ∧ ∀ M H σ, Rel G M S H → EnvR G M S H σ ρ → ∃ M1, Rel G M1 S1 H ∧ ExtS M S H σ ρ M1 S1 H σ ρ1 ∧ EnvR G M1 S1 H σ ρ1 := by
  obtain ⟨l, hl, e⟩ := Option.map_eq_some_iff.mp h
  subst e
  refine ⟨_, _, rfl, fun M H σ rl en => ?_⟩
  obtain ⟨h0, p, vs, h1, h2, h3, h4, h5⟩ := en.getO hl
  obtain ⟨r1, u1, e1⟩ := rel_share (o := .lst l) rl ⟨vs, h2, h3⟩ h4 h5
  have hi : i < ρ.length := (List.getElem?_eq_some_iff.mp h0).1
  have hlen : (S ++ [SO.lst l]).length = S.length + 1 := by simp
  have ows : ∀ q, Own σ (putV ρ i (.ref S.length)) q → Own σ ρ q ∧ q ≠ p := fun q hq => by
    obtain ⟨j, l', g1, g2⟩ := hq
    unfold putV at g1
    by_cases e : i = j
    · subst e
      rw [List.getElem?_set_self hi] at g1; cases g1
    · rw [List.getElem?_set_ne e] at g1
      exact ⟨⟨j, l', g1, g2⟩, fun z => e (en.ap i j l l' p h0 g1 h1 (by rw [g2, z]))⟩
  have nm : ∀ q, q ≠ p → (∀ a, a < S.length → M.m a ≠ q) → ∀ a, a < (S ++ [SO.lst l]).length → (M.push S.length p).m a ≠ q := fun q hq g a ha => by
    rw [hlen] at ha
    by_cases hlt : a < S.length
    · rw [u1.m a hlt]; exact g a hlt
    · have ea : a = S.length := by omega
      rw [ea, e1]
      exact Ne.symm hq
  refine ⟨_, r1, ⟨u1, fun q o g1 g2 g3 g4 => ?_⟩, ?_⟩
  · have ne : q ≠ p := fun z => g4 ⟨i, l, h0, by rw [h1, z]⟩
    exact ⟨g1, g2, nm q ne g3, fun z => g4 (ows q z).1⟩
  · refine ⟨by unfold putV; rw [List.length_set]; exact en.len, fun j s hj => ?_, fun j k l1 l2 q g1 g2 g3 g4 => ?_⟩
    · unfold putV at hj
      by_cases e : i = j
      · subst e
        rw [List.getElem?_set_self hi] at hj
        cases hj
        exact ⟨.ref p, h1, by rw [hlen]; exact Nat.lt_succ_self _, by rw [e1]⟩
      · rw [List.getElem?_set_ne e] at hj
        have z := en.sl j s hj
        cases s with
        | un => exact True.intro
        | val d =>
          obtain ⟨v, z1, z2⟩ := z
          exact ⟨v, z1, z2.up u1⟩
        | own l' =>
          obtain ⟨q, us, z1, z2, z3, z4, z5⟩ := z
          exact ⟨q, us, z1, z2, z3.up u1, z4, nm q (fun w => e (en.ap i j l l' p h0 hj h1 (by rw [z1, w]))) z5⟩
    · unfold putV at g1 g2
      have n1 : i ≠ j := by
        rintro rfl
        rw [List.getElem?_set_self hi] at g1; cases g1
      have n2 : i ≠ k := by
        rintro rfl
        rw [List.getElem?_set_self hi] at g2; cases g2
      rw [List.getElem?_set_ne n1] at g1
      rw [List.getElem?_set_ne n2] at g2
      exact en.ap j k l1 l2 q g1 g2 g3 g4

/-! ### plain statements -/
theorem p_expr {e : Expr} {fe : Env → Store → Option (D × Store)} {pos : Pos} (he : PE X e (tEf G fe)) (hn : notComp e = true) : PS X (.Expr e pos) (tSf G fun ρ S => (fe ρ S).map fun x => .nx ρ x.2) := by
  refine ps_weak (ps_expr he (sw_false hn _ _ _)) fun D σ H h => ?_
  obtain ⟨M, S, ρ, r, rl, en, h, k⟩ := h
  obtain ⟨x, hx, h⟩ := Option.map_eq_some_iff.mp h
  subst h
  exact tEf.mk rl en hx fun v M1 H1 r1 x1 p1 => k σ M1 H1 r1 x1.toS (en.ext x1)
theorem p_ret {e : Expr} {fe : Env → Store → Option (D × Store)} {pos : Pos} (he : PE X e (tEf G fe)) : PS X (.Return (some e) pos) (tSf G fun ρ S => (fe ρ S).map fun x => .rt x.1 x.2) := by
  refine ps_weak (ps_ret he) fun D σ H h => ?_
  obtain ⟨M, S, ρ, r, rl, en, h, k⟩ := h
  obtain ⟨x, hx, h⟩ := Option.map_eq_some_iff.mp h
  subst h
  exact tEf.mk rl en hx fun v M1 H1 r1 x1 p1 => k v M1 H1 r1 x1.toR p1
theorem p_retN {pos : Pos} : PS X (.Return none pos) (tSf G fun _ S => some (.rt .non S)) := by
  refine ps_weak ps_retN fun D σ H h => ?_
  obtain ⟨M, S, ρ, r, rl, en, h, k⟩ := h
  cases h
  exact k .non M H rl Ext.refl.toR rfl
theorem p_pass {pos : Pos} : PS X (.Pass pos) (tSf G fun ρ S => some (.nx ρ S)) := by
  refine ps_weak ps_pass fun D σ H h => ?_
  obtain ⟨M, S, ρ, r, rl, en, h, k⟩ := h
  cases h
  exact k σ M H rl .refl en
theorem p_doc {x : Str} {j : Nat} {pos pos' : Pos} : PS X (.Expr (.Constant (.str x) j pos) pos') (tSf G fun ρ S => some (.nx ρ S)) := by
  refine ps_weak ps_doc fun D σ H h => ?_
  obtain ⟨M, S, ρ, r, rl, en, h, k⟩ := h
  cases h
  exact k σ M H rl .refl en
end
section
variable {X : Cx} {G : Gx}
theorem len_of {i : Nat} {x : Str} (h : X.N[i]? = some x) : i < X.N.length := (List.getElem?_eq_some_iff.mp h).1
theorem ps_len {st : Stmt} {t t' : TS} (h : PS X st t) (i : ∀ D σ H, σ.length = X.N.length → t' D σ H → t D σ H) : PS X st t' := ⟨fun pins s σ H D I q => h.run pins s σ H D I (i _ _ _ I.len q)⟩
theorem setV_read {i : Nat} {te : TE} {fe : Env → Store → Option (D × Store)} {D : Ends} {σ : L2.St} {H : Hp} (ht : ∀ σ H Q, tEf G fe σ H Q → te σ H Q) (hi : i < X.N.length) (hs : σ.length = X.N.length)
    (h : tSf G (fun ρ S => (fe ρ S).map fun x => .nx (putV ρ i x.1) x.2) D σ H) : tAsg te (gName i) D σ H := by
  obtain ⟨M, S, ρ, r, rl, en, h, k⟩ := h
  obtain ⟨x, hx, h⟩ := Option.map_eq_some_iff.mp h
  subst h
  refine ht _ _ _ (tEf.mk rl en hx fun v M1 H1 r1 x1 p1 => ?_)
  have e1 := en.ext x1
  exact k (σ.set i (some v)) M1 H1 r1 (x1.toS.less fun p z => own_put z e1.len) (e1.putV (by rw [e1.len, hs]; exact hi) p1)
theorem setL_read {i : Nat} {te : TE} {fl : Env → Store → Option (List D × Store)} {D : Ends} {σ : L2.St} {H : Hp} (ht : ∀ σ H Q, tLf G fl σ H Q → te σ H Q) (hi : i < X.N.length) (hs : σ.length = X.N.length)
    (h : tSf G (fun ρ S => (fl ρ S).map fun x => .nx (ρ.set i (.own x.1)) x.2) D σ H) : tAsg te (gName i) D σ H := by
  obtain ⟨M, S, ρ, r, rl, en, h, k⟩ := h
  obtain ⟨x, hx, h⟩ := Option.map_eq_some_iff.mp h
  subst h
  refine ht _ _ _ ⟨M, S, ρ, x.1, x.2, rl, en, hx, fun p vs M1 H1 r1 x1 p1 hp hn f1 f2 => ?_⟩
  have e1 := en.ext x1
  have no : ¬ Own σ ρ p := own_fresh en hn
  refine k (σ.set i (some (.ref p))) M1 H1 r1 ⟨x1.up, fun q o g1 g2 g3 g4 => ?_⟩ (e1.putO (by rw [e1.len, hs]; exact hi) hp p1 f1 f2 fun j l' z1 z2 => no ⟨j, l', z1, z2⟩)
  obtain ⟨y1, y2, y3⟩ := x1.fgn q o g1 g2 g3
  refine ⟨y1, y2, y3, fun z => ?_⟩
  rcases own_putO z e1.len with z | z
  · rw [z, hn] at g1; cases g1
  · exact g4 z
/-- name = e -/
theorem p_set {i : Nat} {x : Str} {e : Expr} {te : TE} {fe : Env → Store → Option (D × Store)} {pos pos' : Pos} (hp : PS X (.Assign [.Name x pos'] e pos) (tAsg te (gName i))) (hN : X.N[i]? = some x) (ht : ∀ σ H Q, tEf G fe σ H Q → te σ H Q) :
    PS X (.Assign [.Name x pos'] e pos) (tSf G fun ρ S => (fe ρ S).map fun x => .nx (putV ρ i x.1) x.2) := ps_len hp fun D σ H hs h => setV_read ht (len_of hN) hs h
theorem p_setO {i : Nat} {x : Str} {e : Expr} {te : TE} {fl : Env → Store → Option (List D × Store)} {pos pos' : Pos} (hp : PS X (.Assign [.Name x pos'] e pos) (tAsg te (gName i))) (hN : X.N[i]? = some x) (ht : ∀ σ H Q, tLf G fl σ H Q → te σ H Q) :
    PS X (.Assign [.Name x pos'] e pos) (tSf G fun ρ S => (fl ρ S).map fun x => .nx (ρ.set i (.own x.1)) x.2) := ps_len hp fun D σ H hs h => setL_read ht (len_of hN) hs h
/-- a, b = e -/
theorem own_putVs : ∀ {is : List Nat} {ds : List D} {vs : List V} {M : Mp} {S : Store} {H : Hp} {σ : L2.St} {ρ ρ' : Env} {Q : L2.St → Hp → Prop}, EnvR G M S H σ ρ → RpL G M S.length ds vs → (∀ i ∈ is, i < ρ.length) → putVs ρ is ds = some ρ' →
    (∀ σ', EnvR G M S H σ' ρ' → (∀ p, Own σ' ρ' p → Own σ ρ p) → Q σ' H) → gNames is vs σ H Q
  | [], [], vs, M, S, H, σ, ρ, ρ', Q, e, p, hi, h, k => by
    cases h
    exact ⟨p, k σ e fun _ z => z⟩
  | [], _ :: _, _, _, _, _, _, _, _, _, _, _, _, h, _ => nn h
  | _ :: _, [], _, _, _, _, _, _, _, _, _, _, _, h, _ => nn h
  | i :: is, d :: ds, vs, M, S, H, σ, ρ, ρ', Q, e, p, hi, h, k => by
    obtain ⟨v, r, ev, pv, pr⟩ := p
    have h : putVs (putV ρ i d) is ds = some ρ' := h
    have e2 := e.putV (hi i List.mem_cons_self) pv
    refine ⟨v, r, ev, ?_⟩
    show gNames is r (σ.set i (some v)) H Q
    exact own_putVs e2 pr (fun j hj => by rw [show (putV ρ i d).length = ρ.length from List.length_set]; exact hi j (List.mem_cons_of_mem _ hj)) h fun σ' e' hs => k σ' e' fun p z => own_put (hs p z) e.len
theorem own_putT {one : Bool} {is : List Nat} {d : D} {x : V} {M : Mp} {S : Store} {H : Hp} {σ : L2.St} {ρ ρ' : Env} {Q : L2.St → Hp → Prop} (r : Rel G M S H) (e : EnvR G M S H σ ρ) (p : Rp G M S.length d x) (hi : ∀ i ∈ is, i < ρ.length) (h : putT ρ one is d = some ρ')
    (k : ∀ σ', EnvR G M S H σ' ρ' → (∀ p, Own σ' ρ' p → Own σ ρ p) → Q σ' H) : gOf G.K one is x σ H Q := by
  cases one with
  | true =>
    match is, h with
    | [i], h =>
      have h := Option.some.inj (show some (putV ρ i d) = some ρ' from h)
      subst h
      exact k _ (e.putV (hi i (by simp)) p) fun p z => own_put z e.len
    | [], h => exact nn h
    | _ :: _ :: _, h => exact nn h
  | false =>
    cases d <;> first | exact nn h | skip
    rename_i ds
    obtain ⟨q, vs, e1, s, t⟩ := p
    have h : putVs ρ is ds = some ρ' := h
    exact ⟨q, vs, e1, sqT_up r.sub s, by rw [← t.length]; exact putVs_len h, own_putVs e t hi h k⟩
def notTuple : Expr → Bool
  | .Tuple _ _ _ => false
  | _ => true
theorem sole_false {e tg : Expr} (h : notComp e = true) (l : Nat) (env : PySem.Env) : swapsWithSole [tg] e l env = pure false := sw_false h _ _ _
theorem stores_none {e tg : Expr} (h : notTuple e = true) (env : PySem.Env) : swappedStores [tg] e env = pure none := by
  cases tg <;> cases e <;> first | rfl | exact nb h
/-- one of the names stands in a cell -/
def celT (sc : Scope) : Expr → Bool
  | .Tuple ts _ _ => ts.any fun t => match t with | .Name x _ => decide (sc.names.lookup x = some .cell) | _ => false
  | _ => false
theorem stores_cell {tg e : Expr} {env : PySem.Env} (h : celT env.scope tg = true) : swappedStores [tg] e env = pure none := by
  cases tg <;> first | exact nb h | skip
  rename_i ts k p
  obtain ⟨t, ht, hc⟩ := List.any_eq_true.mp (show (ts.any fun t => match t with | .Name x _ => decide (env.scope.names.lookup x = some .cell) | _ => false) = true from h)
  cases t <;> first | exact nb hc | skip
  rename_i x px
  have hc : env.scope.names.lookup x = some .cell := of_decide_eq_true hc
  have hk : ¬ env.kindOf x = some .local := by
    show ¬ env.scope.names.lookup x = some .local
    rw [hc]
    exact fun z => by cases z
  cases e <;> first | rfl | skip
  unfold swappedStores
  simp only [pure_bind]
  split
  · rfl
  · split
    · rfl
    · rw [if_pos]
      simp
      left
      exact ⟨_, ht, by simp [hk]⟩
theorem p_setT {is : List Nat} {tg e : Expr} {fe : Env → Store → Option (D × Store)} {pos : Pos} (hK : X.K = G.K) (he : PE X e (tEf G fe)) (hg : PG X tg (gOf X.K false is)) (hi : ∀ i ∈ is, i < X.N.length) (hn : notComp e = true) (ht : notTuple e = true ∨ celT X.env.scope tg = true)
    (h1 : (assignEach [tg] X.env).map (·.2) = [assign tg X.env]) : PS X (.Assign [tg] e pos) (tSf G fun ρ S => (fe ρ S).bind fun x => match x.1 with | .tup ds => (putVs ρ is ds).map fun ρ1 => .nx ρ1 x.2 | _ => none) := by
  refine ps_len (ps_asg he hg (sole_false hn _ _) (ht.elim (fun ht => stores_none ht _) stores_cell) h1) fun D σ H hs h => ?_
  obtain ⟨M, S, ρ, r, rl, en, h, k⟩ := h
  obtain ⟨⟨x1, x2⟩, hx, h⟩ := Option.bind_eq_some_iff.mp h
  cases x1 with
  | tup ds =>
    obtain ⟨ρ1, hρ, h⟩ := Option.map_eq_some_iff.mp (show (putVs ρ is ds).map (fun ρ1 => Fl.nx ρ1 x2) = some r from h)
    subst h
    refine tEf.mk rl en hx fun v M1 H1 r1 q1 p1 => ?_
    have e1 := en.ext q1
    rw [hK]
    refine own_putT (one := false) (ρ' := ρ1) r1 e1 p1 (fun i z => by rw [e1.len, hs]; exact hi i z) hρ fun σ' e' ow => k σ' M1 H1 r1 (q1.toS.less ow) e'
  | _ => exact nn h
theorem p_setLs {is : List Nat} {tg e : Expr} {fe : Env → Store → Option (D × Store)} {pos : Pos} (he : PE X e (tEf G fe)) (hg : PG X tg (gLst X.K is.length (gNames is))) (hK : X.K = G.K) (hi : ∀ i ∈ is, i < X.N.length) (hn : notComp e = true) (ht : notTuple e = true)
    (h1 : (assignEach [tg] X.env).map (·.2) = [assign tg X.env]) : PS X (.Assign [tg] e pos) (tSf G fun ρ S => (fe ρ S).bind fun x => match x.1 with | .lst ds => (putVs ρ is ds).map fun ρ1 => .nx ρ1 x.2 | _ => none) := by
  refine ps_len (ps_asg he hg (sole_false hn _ _) (stores_none ht _) h1) fun D σ H hs h => ?_
  obtain ⟨M, S, ρ, r, rl, en, h, k⟩ := h
  obtain ⟨⟨x1, x2⟩, hx, h⟩ := Option.bind_eq_some_iff.mp h
  cases x1 with
  | lst ds =>
    obtain ⟨ρ1, hρ, h⟩ := Option.map_eq_some_iff.mp (show (putVs ρ is ds).map (fun ρ1 => Fl.nx ρ1 x2) = some r from h)
    subst h
    refine tEf.mk rl en hx fun v M1 H1 r1 q1 p1 => ?_
    have e1 := en.ext q1
    obtain ⟨q, vs, ev, s, t⟩ := p1
    refine ⟨q, vs, ev, SqL.of (r1.sub _ _ s), by rw [← t.length]; exact putVs_len hρ, own_putVs e1 t (fun i z => by rw [e1.len, hs]; exact hi i z) hρ fun σ' e' ow => k σ' M1 H1 r1 (q1.toS.less ow) e'⟩
  | _ => exact nn h
/-- a name op= e -/
def gAug (op : BOp) : Store → D → D → Option D := fun _ a b => augD op a b
theorem aug_rule {op : BOp} {o : Operator} (h : bopB op o = true) : ∃ r, OpR X (inplaceOp o) r ∧ R2ok G (gAug op) r := by
  cases op with
  | add =>
    cases o <;> first | exact nb h | skip
    refine ⟨_, OpR.or iop_add iop_add_str, ?_⟩
    intro M S H x y a b d Q r ra rb h k
    have h' : augD .add a b = some d := h
    cases a <;> cases b <;> first | exact nn h' | skip
    · rename_i i j
      cases ra
      cases rb
      refine .inl ⟨i, j, rfl, rfl, k _ M H r .refl ?_⟩
      rw [← Option.some.inj h']
      rfl
    · rename_i i j
      obtain ⟨e1, o1, l1⟩ := ra
      obtain ⟨e2, o2, l2⟩ := rb
      have h2 : (if szOk (i.length + j.length) then some (D.str (i ++ j)) else none) = some d := h'
      split at h2
      · rename_i c
        refine .inr ⟨i, j, e1, e2, szOk_le c, k _ M H r .refl ?_⟩
        rw [← Option.some.inj h2]
        exact ⟨rfl, strOk_app o1 o2, by rw [str_app_len]; exact of_decide_eq_true c⟩
      · cases h2
  | sub =>
    cases o <;> first | exact nb h | skip
    refine ⟨_, iop_sub, ok_int0 (fd := fun i j => .int (i - j)) (fun S a b d h => ?_) fun _ _ _ _ => rfl⟩
    cases a <;> cases b <;> first | exact nn h | skip
    rename_i i j
    exact ⟨i, j, rfl, rfl, (Option.some.inj h).symm⟩
  | _ => exact ⟨_, opR_never, fun M S H x y a b d Q r ra rb h k => by
      cases a <;> cases b <;> exact nn h⟩
theorem p_aug {i : Nat} {x : Str} {op : BOp} {o : Operator} {e : Expr} {fe : Env → Store → Option (D × Store)} {pos pos' : Pos} (hN : X.N.Nodup) (hi : X.N[i]? = some x) (hx : Loc X.env.scope x) (he : PE X e (tEf G fe)) (ho : bopB op o = true) (hf : X.fn x = true ∨ X.env.scope.names.lookup x = some .local) :
    PS X (.AugAssign (.Name x pos') o e pos) (tSf G fun ρ S => (getV ρ i).bind fun d => (fe ρ S).bind fun x => (augD op d x.1).map fun r => .nx (putV ρ i r) x.2) := by
  obtain ⟨r, h1, h2⟩ := aug_rule (X := X) (G := G) ho
  refine ps_len (ps_aug hN hi hx he h1 hf) fun D σ H hs h => ?_
  obtain ⟨M, S, ρ, fl, rl, en, h, k⟩ := h
  obtain ⟨d, hd, h⟩ := Option.bind_eq_some_iff.mp h
  obtain ⟨y, hy, h⟩ := Option.bind_eq_some_iff.mp h
  obtain ⟨z, hz, h⟩ := Option.map_eq_some_iff.mp h
  subst h
  obtain ⟨v, v1, v2⟩ := en.getV hd
  refine ⟨v, v1, tEf.mk rl en hy fun w M1 H1 r1 x1 p1 => ?_⟩
  refine h2 M1 y.2 H1 v w d y.1 z _ r1 (v2.up x1.up) p1 hz fun u M2 H2 r2 x2 p2 => ?_
  have e2 := (en.ext x1).ext x2
  exact k (σ.set i (some u)) M2 H2 r2 ((x1.trans x2).toS.less fun p q => own_put q e2.len) (e2.putV (by rw [e2.len, hs]; exact len_of hi) p2)

/-! ### own lists -/
theorem own_touch {i : Nat} {l l' : List D} {p : Addr} {vs' : List V} {M : Mp} {S : Store} {H : Hp} {σ : L2.St} {ρ : Env} (rl : Rel G M S H) (en : EnvR G M S H σ ρ) (h0 : ρ[i]? = some (.own l)) (h1 : σ[i]? = some (some (.ref p))) (h4 : M.F p = none) (h5 : ∀ a, a < S.length → M.m a ≠ p) (t : RpL G M S.length l' vs') :
    Rel G M S (upd H p (.lst vs')) ∧ ExtS M S H σ ρ M S (upd H p (.lst vs')) σ (ρ.set i (.own l')) ∧ EnvR G M S (upd H p (.lst vs')) σ (ρ.set i (.own l')) := by
  have hi : i < ρ.length := (List.getElem?_eq_some_iff.mp h0).1
  have back : ∀ (j : Nat) (k : List D), (ρ.set i (.own l'))[j]? = some (.own k) → ∃ k', ρ[j]? = some (.own k') := fun j k hj => by
    by_cases e : i = j
    · subst e; exact ⟨l, h0⟩
    · rw [List.getElem?_set_ne e] at hj; exact ⟨k, hj⟩
  refine ⟨rel_chg rl h4 h5, ⟨.refl, fun q o g1 g2 g3 g4 => ⟨?_, g2, g3, fun z => ?_⟩⟩, ?_⟩
  · rw [upd_ne fun z => g4 ⟨i, l, h0, by rw [h1, z]⟩]; exact g1
  · obtain ⟨j, k, z1, z2⟩ := z
    obtain ⟨k', z3⟩ := back j k z1
    exact g4 ⟨j, k', z3, z2⟩
  · refine ⟨by rw [List.length_set]; exact en.len, fun j s hj => ?_, fun j k l1 l2 q g1 g2 g3 g4 => ?_⟩
    · by_cases e : i = j
      · subst e
        rw [List.getElem?_set_self hi] at hj
        cases hj
        exact ⟨p, vs', h1, upd_same, t, h4, h5⟩
      · rw [List.getElem?_set_ne e] at hj
        have z := en.sl j s hj
        cases s with
        | un => exact True.intro
        | val d => exact z
        | own k =>
          obtain ⟨q, us, z1, z2, z3, z4, z5⟩ := z
          exact ⟨q, us, z1, by rw [upd_ne fun w => e (en.ap i j l k p h0 hj h1 (by rw [z1, w]))]; exact z2, z3, z4, z5⟩
    · obtain ⟨k1, y1⟩ := back j l1 g1
      obtain ⟨k2, y2⟩ := back k l2 g2
      exact en.ap j k k1 k2 q y1 y2 g3 g4
variable {x : Str} {apos cpos spos px : Pos}
theorem few1 {e : Expr} {env : PySem.Env} (hs : notStar e = true) : ((backTo cpos (starEach [e] env)).all (fun x => !x.1) && (backToKw cpos (keywordEach [] env)).all (fun x => x.1.isSome)
      && decide (([e] : List Expr).length + ([] : List Keyword).length + (if ([] : List Keyword).isEmpty then 0 else 1) < 30)) = true := by
  rw [star_cons hs]
  rfl
/-- v.append(e), v a name's own list -/
theorem p_appOwn {v : Nat} {e : Expr} {fe : Env → Store → Option (D × Store)} (hN : X.N[v]? = some x) (hv : Vis X.env.scope x) (hd : (x == ("__debug__" : Str)) = false) (hcd : (x == ("__classdict__" : Str)) = false) (he : PE X e (tEf G fe)) (hs : notStar e = true) (hl : (apos.endLine == cpos.line) = true) :
    PS X (.Expr (.Call (.Attribute (.Name x px) "append" apos) [e] [] cpos) spos) (tSf G fun ρ S => (fe ρ S).bind fun x => (getO ρ v).bind fun l => if decide (l.length < 16777216) then some (.nx (ρ.set v (.own (l ++ [x.1]))) x.2) else none) := by
  refine ps_weak (ps_expr (pe_bm PySem.F.plainAttrs_list PySem.F.slot_list_append PySem.F.type_list_append mt_append (pe_var hN hv hd hcd) (pa_cons he pa_nil (star_cons hs)) rfl (few1 hs) hl (star_cons hs) (plain_any rfl)) (sw_false rfl _ _ _)) fun D σ H h => ?_
  obtain ⟨M, S, ρ, fl, rl, en, h, k⟩ := h
  obtain ⟨y, hy, h⟩ := Option.bind_eq_some_iff.mp h
  obtain ⟨l, hl, h⟩ := Option.bind_eq_some_iff.mp h
  split at h
  · rename_i c
    cases h
    obtain ⟨h0, p, vs, h1, h2, h3, h4, h5⟩ := en.getO hl
    refine ⟨.ref p, h1, .inl ⟨rfl, vs, SqL.of h2⟩, tEf.mk rl en hy fun w M1 H1 r1 x1 p1 => ?_⟩
    obtain ⟨q1, q2, q3⟩ := x1.fgn p _ h2 h4 h5
    have hlen := h3.length
    have e1 := en.ext x1
    obtain ⟨z1, z2, z3⟩ := own_touch (l' := l ++ [y.1]) (vs' := vs ++ [w]) r1 e1 h0 h1 q2 q3 ((h3.up x1.up).append (RpL.cons p1 RpL.nil))
    exact ⟨p, vs, w, rfl, rfl, q1, by rw [sizeLine_eq, ← hlen]; exact of_decide_eq_true c, k σ M1 _ z1 (x1.toS.trans z2) z3⟩
  · cases h
/-- v.extend(e) -/
theorem p_extOwn {v : Nat} {e : Expr} {fe : Env → Store → Option (D × Store)} (hN : X.N[v]? = some x) (hv : Vis X.env.scope x) (hd : (x == ("__debug__" : Str)) = false) (hcd : (x == ("__classdict__" : Str)) = false) (he : PE X e (tEf G fe)) (hs : notStar e = true) (hl : (apos.endLine == cpos.line) = true) :
    PS X (.Expr (.Call (.Attribute (.Name x px) "extend" apos) [e] [] cpos) spos) (tSf G fun ρ S => (fe ρ S).bind fun x => (getO ρ v).bind fun l => match x.1 with | .lst ds => if szOk (l.length + ds.length) then some (.nx (ρ.set v (.own (l ++ ds))) x.2) else none | _ => none) := by
  refine ps_weak (ps_expr (pe_bm PySem.F.plainAttrs_list PySem.F.slot_list_extend PySem.F.type_list_extend mt_extend (pe_var hN hv hd hcd) (pa_cons he pa_nil (star_cons hs)) rfl (few1 hs) hl (star_cons hs) (plain_any rfl)) (sw_false rfl _ _ _)) fun D σ H h => ?_
  obtain ⟨M, S, ρ, fl, rl, en, h, k⟩ := h
  obtain ⟨⟨y1, y2⟩, hy, h⟩ := Option.bind_eq_some_iff.mp h
  obtain ⟨l, hl, h⟩ := Option.bind_eq_some_iff.mp h
  cases y1 with
  | lst ds =>
    have h : (if szOk (l.length + ds.length) then some (Fl.nx (ρ.set v (.own (l ++ ds))) y2) else none) = some fl := h
    split at h
    · rename_i c
      cases h
      obtain ⟨h0, p, vs, h1, h2, h3, h4, h5⟩ := en.getO hl
      refine ⟨.ref p, h1, .inl ⟨rfl, vs, SqL.of h2⟩, tEf.mk rl en hy fun w M1 H1 r1 x1 p1 => ?_⟩
      obtain ⟨q1, q2, q3⟩ := x1.fgn p _ h2 h4 h5
      obtain ⟨b, us, e2, s2, t2⟩ := p1
      have hlen := h3.length
      have hlen2 := t2.length
      have e1 := en.ext x1
      obtain ⟨z1, z2, z3⟩ := own_touch (l' := l ++ ds) (vs' := vs ++ us) r1 e1 h0 h1 q2 q3 ((h3.up x1.up).append t2)
      exact ⟨p, b, vs, us, rfl, by rw [e2], q1, r1.sub _ _ s2, by rw [← hlen, ← hlen2]; exact szOk_le c, k σ M1 _ z1 (x1.toS.trans z2) z3⟩
    · cases h
  | _ => exact nn h
/-- i = v.pop() -/
theorem p_popOwn {i v : Nat} {y : Str} {py : Pos} (hND : X.N.Nodup) (hNi : X.N[i]? = some y) (hy : Loc X.env.scope y) (hf : X.fn y = true ∨ X.env.scope.names.lookup y = some .local) (hN : X.N[v]? = some x) (hv : Vis X.env.scope x) (hd : (x == ("__debug__" : Str)) = false) (hcd : (x == ("__classdict__" : Str)) = false) (hl : (apos.endLine == cpos.line) = true) :
    PS X (.Assign [.Name y py] (.Call (.Attribute (.Name x px) "pop" apos) [] [] cpos) spos) (tSf G fun ρ S => (getO ρ v).bind fun l => (l[l.length - 1]?).map fun d => .nx (putV (ρ.set v (.own l.dropLast)) i d) S) := by
  refine ps_len (ps_set hND hNi hy (pe_bm0 PySem.F.plainAttrs_list PySem.F.slot_list_pop PySem.F.type_list_pop mt_pop (pe_var hN hv hd hcd) rfl hl) (sw_false rfl _ _ _) hf) fun D σ H hs h => ?_
  obtain ⟨M, S, ρ, fl, rl, en, h, k⟩ := h
  obtain ⟨l, hl, h⟩ := Option.bind_eq_some_iff.mp h
  obtain ⟨d, hd, h⟩ := Option.map_eq_some_iff.mp h
  subst h
  obtain ⟨h0, p, vs, h1, h2, h3, h4, h5⟩ := en.getO hl
  have hlen := h3.length
  rw [hlen] at hd
  obtain ⟨w, w1, w2⟩ := h3.get hd
  obtain ⟨z1, z2, z3⟩ := own_touch (l' := l.dropLast) (vs' := vs.dropLast) rl en h0 h1 h4 h5 h3.dropLast
  refine ⟨.ref p, h1, .inl ⟨rfl, vs, SqL.of h2⟩, p, vs, w, rfl, rfl, h2, w1, ?_⟩
  exact k (σ.set i (some w)) M _ z1 (z2.less fun q z => own_put z z3.len) (z3.putV (by rw [z3.len, hs]; exact len_of hNi) w2)

/-! ### choices and loops -/
theorem p_ite {c : Expr} {a b : List Stmt} {fc : Env → Store → Option (Bool × Store)} {fa fb : Env → Store → Option Fl} {pos : Pos} (hc : PT X c (tTf G fc)) (ha : PSs X a (tSf G fa)) (hb : PSs X b (tSf G fb)) :
    PS X (.If c a b pos) (tSf G fun ρ S => (fc ρ S).bind fun x => if x.1 then fa ρ x.2 else fb ρ x.2) := by
  refine ps_weak (ps_if hc ha hb) fun D σ H h => ?_
  obtain ⟨M, S, ρ, r, rl, en, h, k⟩ := h
  obtain ⟨⟨b1, S1⟩, hx, h⟩ := Option.bind_eq_some_iff.mp h
  refine tTf.mk rl en hx fun M1 H1 r1 x1 => ?_
  have e1 := en.ext x1
  have go : ∀ f : Env → Store → Option Fl, f ρ S1 = some r → tSf G f D σ H1 := fun f hf => by
    cases r with
    | nx ρ2 S2 => exact tSf.nx r1 e1 hf fun σ2 M2 H2 r2 x2 e2 => k σ2 M2 H2 r2 (x1.toS.trans x2) e2
    | rt d S2 => exact tSf.rt r1 e1 hf fun v M2 H2 r2 x2 p2 => k v M2 H2 r2 (x1.toS.toR x2) p2
  cases b1 with
  | true => exact iteT (go fa h)
  | false => exact iteF (go fb h)
/-- behind a block the slots are as many as the names -/
theorem pss_end {st : List Stmt} {t : TS} (h : PSs X st t) : PSs X st (fun D σ H => t { D with nx := fun σ' H' => σ'.length = X.N.length → D.nx σ' H' } σ H) := ⟨fun pins s σ H D I q => thn (h.run pins s σ H _ I q) fun f s' z => by
  cases f with
  | next =>
    obtain ⟨σ', H', I', z⟩ := z
    exact ⟨σ', H', I', z I'.len⟩
  | brk => exact z
  | cont => exact z
  | ret u => exact z⟩
theorem p_for {tgt iter : Expr} {body : List Stmt} {one : Bool} {tg : List Nat} {fi : Env → Store → Option ((List D × Option (Nat × List D)) × Store)} {fb : Env → Store → Option Fl} {pos : Pos} (hK : X.K = G.K) (hp : PassesOwn (model X.prog X.w) X.A X.env X.xe) (hc : X.calm = true) (hi : PIf X G tgt iter fi)
    (hg : PG X tgt (gOf X.K one tg)) (hN : ∀ i ∈ tg, i < X.N.length) (hb : PSs X body (tSf G fb)) (hs : ∀ x, foldedSetIterable iter X.env x = pure x) :
    PS X (.For tgt iter body [] pos) (tSf G fun ρ S => (fi ρ S).bind fun w => forD (turnF one tg w.1.2 fb) w.1.1 ρ w.2) := by
  obtain ⟨wi, pi, ri⟩ := hi.ex
  refine ps_len (ps_for hp hc pi hg (pss_end hb) hs) fun D σ H hl h => ?_
  obtain ⟨M, S, ρ, r, rl, en, h, k⟩ := h
  obtain ⟨⟨w, S0⟩, hw, h⟩ := Option.bind_eq_some_iff.mp h
  have h : forD (turnF one tg w.2 fb) w.1 ρ S0 = some r := h
  refine ri σ H _ M S ρ w S0 rl en hw fun J M0 H0 r0 x0 io kp => ?_
  refine ⟨fun i m σ1 H1 => m = w.1.length - i ∧ i ≤ w.1.length ∧ σ1.length = σ.length ∧ ∃ (M1 : Mp) (S1 : Store) (ρ1 : Env), Rel G M1 S1 H1 ∧ ExtS M S H σ ρ M1 S1 H1 σ1 ρ1 ∧ EnvR G M1 S1 H1 σ1 ρ1 ∧ Up M0 M1 S0.length S1.length ∧ keptP w.2 S1 ∧ forD (turnF one tg w.2 fb) (w.1.drop i) ρ1 S1 = some r,
    ⟨_, rfl, Nat.zero_le _, rfl, M0, S0, ρ, r0, x0.toS, en.ext x0, .refl, kp, h⟩, ?_⟩
  rintro i m σ1 H1 ⟨rfl, hi, hl1, M1, S1, ρ1, r1, x1, e1, up, kp1, hf⟩
  obtain ⟨io1, io2, io3⟩ := io M1 S1 H1 r1 up kp1 i
  by_cases hlt : i < w.1.length
  · rw [List.drop_eq_getElem_cons hlt] at hf
    obtain ⟨q, hq, hf⟩ := Option.bind_eq_some_iff.mp (show (turnF one tg w.2 fb w.1[i] ρ1 S1).bind _ = _ from hf)
    obtain ⟨ρ2, hρ, hq⟩ := Option.bind_eq_some_iff.mp (show (putT ρ1 one tg w.1[i]).bind _ = _ from hq)
    obtain ⟨q', hq', hq⟩ := Option.bind_eq_some_iff.mp hq
    refine .inr ⟨io1 hlt, fun σ' H' => i + 1 ≤ w.1.length ∧ σ'.length = σ.length ∧ ∃ (M1 : Mp) (S1 : Store) (ρ1 : Env), Rel G M1 S1 H' ∧ ExtS M S H σ ρ M1 S1 H' σ' ρ1 ∧ EnvR G M1 S1 H' σ' ρ1 ∧ Up M0 M1 S0.length S1.length ∧ keptP w.2 S1 ∧ forD (turnF one tg w.2 fb) (w.1.drop (i + 1)) ρ1 S1 = some r,
      fun σ' H' z => ⟨w.1.length - (i + 1), by omega, rfl, z⟩, fun v H' hy => ?_⟩
    obtain ⟨M2, r2, x2, p2⟩ := io3 v H' _ (List.getElem?_eq_getElem hlt) hy
    have e2 := e1.ext x2
    rw [hK]
    refine own_putT r2 e2 p2 (fun j hj => by rw [e2.len, hl1, hl]; exact hN j hj) hρ fun σ3 e3 ow => ?_
    have x3 : ExtS M S H σ ρ M2 S1 H' σ3 ρ2 := (x1.trans x2.toS).less ow
    cases q' with
    | nx ρ4 S4 =>
      have hq : (if keptD w.2 S4 then some (Fl.nx ρ4 S4) else none) = some q := hq
      split at hq
      · rename_i ck
        cases hq
        exact tSf.nx r2 e3 hq' fun σ5 M5 H5 r5 x5 e5 z5 => ⟨hlt, by rw [z5, hl], M5, S4, ρ4, r5, x3.trans x5, e5, (up.trans x2.up).trans x5.up, keptD_iff.mp ck, hf⟩
      · cases hq
    | rt d S4 =>
      have hq := Option.some.inj (show some (Fl.rt d S4) = some q from hq)
      subst hq
      have hf := Option.some.inj (show some (Fl.rt d S4) = some r from hf)
      subst hf
      exact tSf.rt r2 e3 hq' fun v M5 H5 r5 x5 p5 => k v M5 H5 r5 (x3.toR x5) p5
  · have e : i = w.1.length := by omega
    subst e
    rw [List.drop_length] at hf
    have hf := Option.some.inj (show some (Fl.nx ρ1 S1) = some r from hf)
    subst hf
    exact .inl ⟨io2 (Nat.le_refl _), k σ1 M1 H1 r1 x1 e1⟩
/-- while -/
theorem p_while {c : Expr} {body : List Stmt} {fc : Env → Store → Option (Bool × Store)} {fb : Env → Store → Option Fl} {pos : Pos} (hp : PassesOwn (model X.prog X.w) X.A X.env X.xe) (hc : PT X c (tTf G fc)) (hb : PSs X body (tSf G fb)) :
    PS X (.While c body [] pos) (tSf G fun ρ S => whileD (turnW fc fb) (ρ, S)) := by
  refine ps_weak (ps_while hp hc hb) fun D σ H h => ?_
  obtain ⟨M, S, ρ, r, rl, en, h, k⟩ := h
  generalize hT : turnW fc fb = T at h
  obtain ⟨n, hn⟩ := whileD_some h
  refine ⟨fun m σ1 H1 => ∃ (M1 : Mp) (S1 : Store) (ρ1 : Env), Rel G M1 S1 H1 ∧ ExtS M S H σ ρ M1 S1 H1 σ1 ρ1 ∧ EnvR G M1 S1 H1 σ1 ρ1 ∧ runN T m (ρ1, S1) = some r, ⟨n, M, S, ρ, rl, .refl, en, hn⟩, ?_⟩
  rintro m σ1 H1 ⟨M1, S1, ρ1, r1, x1, e1, hr⟩
  cases m with
  | zero => exact nn hr
  | succ m =>
    obtain ⟨q, hq, hr⟩ := Option.bind_eq_some_iff.mp (show (T (ρ1, S1)).bind _ = some r from hr)
    rw [← hT] at hq
    obtain ⟨⟨b, S2⟩, hb2, hq⟩ := Option.bind_eq_some_iff.mp hq
    refine tTf.mk r1 e1 hb2 fun M2 H2 r2 x2 => ?_
    have e2 := e1.ext x2
    have x3 := x1.trans x2.toS
    cases b with
    | true =>
      obtain ⟨fl, hfl, hq⟩ := Option.map_eq_some_iff.mp (show (fb ρ1 S2).map flS = some q from hq)
      refine iteT ⟨fun σ' H' => ∃ (M1 : Mp) (S1 : Store) (ρ1 : Env), Rel G M1 S1 H' ∧ ExtS M S H σ ρ M1 S1 H' σ' ρ1 ∧ EnvR G M1 S1 H' σ' ρ1 ∧ runN T m (ρ1, S1) = some r, fun σ' H' z => ⟨m, Nat.lt_succ_self _, z⟩, ?_⟩
      cases fl with
      | nx ρ4 S4 =>
        subst hq
        exact tSf.nx r2 e2 hfl fun σ5 M5 H5 r5 x5 e5 => ⟨M5, S4, ρ4, r5, x3.trans x5, e5, hr⟩
      | rt d S4 =>
        subst hq
        have hr := Option.some.inj (show some (Fl.rt d S4) = some r from hr)
        subst hr
        exact tSf.rt r2 e2 hfl fun v M5 H5 r5 x5 p5 => k v M5 H5 r5 (x3.toR x5) p5
    | false =>
      have hq := Option.some.inj (show some (Sum.inr (Fl.nx ρ1 S2)) = some q from hq)
      subst hq
      have hr := Option.some.inj (show some (Fl.nx ρ1 S2) = some r from hr)
      subst hr
      exact iteF (k σ1 M2 H2 r2 x3 e2)
end
end HN

/-! The text is read as HN says: a look at its trees (Bool), and that what passes it does what HN says. -/
namespace HN
open PySem L2

/-- the names of a text -/
structure Tb where
  prg : Prg
  fname : Nat → Str
  params : Nat → List Str
  kwn : Nat → Nat
  isFn : Nat → Bool
  gname : Nat → List Str
  dname : Nat → Str

def visB (sc : Scope) (x : Str) : Bool := match sc.names.lookup x with
  | some .local => true
  | some .cell => true
  | some .free => true
  | _ => false
def locB (sc : Scope) (x : Str) : Bool := match sc.names.lookup x with
  | some .local => true
  | some .cell => true
  | _ => false
def lclB (sc : Scope) (x : Str) : Bool := match sc.names.lookup x with
  | some .local => true
  | _ => false
def glB (sc : Scope) (x : Str) : Bool := (match sc.names.lookup x with
  | some .globalImplicit => true
  | _ => false) && !(x == ("__debug__" : Str))
def nmB (x : Str) : Bool := !(x == ("__debug__" : Str)) && !(x == ("__classdict__" : Str))
def varB (N : List Str) (sc : Scope) (i : Nat) (x : Str) : Bool := decide (N[i]? = some x) && visB sc x && nmB x
def biName : Bi → Str
  | .len => "len" | .abs => "abs" | .int => "int" | .str => "str" | .repr => "repr" | .max1 => "max" | .max0 => "max" | .max2 => "max" | .sum => "sum" | .tuple => "tuple" | .list => "list" | .all => "all"
  | .isTuple => "isinstance" | .isStr => "isinstance" | .isInt => "isinstance" | .isBool => "isinstance" | .isList => "isinstance"
/-- the class that isinstance asks -/
def isTy : Bi → Option String
  | .isTuple => some "tuple" | .isStr => some "str" | .isInt => some "int" | .isBool => some "bool" | .isList => some "list"
  | _ => none
def isM0 : Bi → Bool
  | .max0 => true
  | _ => false
def biSimple : Bi → Bool
  | .max0 => false
  | f => (isTy f).isNone
/-- an expression whose truth is its value's -/
def truForm : Expr → Bool
  | .Name _ _ => true
  | .Call _ _ _ _ => true
  | .Subscript _ _ _ => true
  | .Attribute _ _ _ => true
  | .Constant _ _ _ => true
  | _ => false
def notSet : Expr → Bool
  | .Set _ _ _ => false
  | _ => true
def kwB : List Keyword → List Str → Bool
  | [], [] => true
  | k :: ks, n :: ns => decide (k.arg = some n) && kwB ks ns
  | _, _ => false

/-- a part that may be left out -/
def mOq (b : Bool) (f : Expr → Bool) : Option Expr → Bool
  | none => b
  | some e => !b && f e
mutual
def mE (T : Tb) (N : List Str) (sc : Scope) : E → Expr → Bool
  | .var i, e => (match e with | .Name x _ => varB N sc i x | _ => false)
  | .int i, e => (match e with | .Constant (.int j) _ _ => decide (i = j) | _ => false)
  | .str s, e => (match e with | .Constant (.str t) _ _ => decide (s = t) && PyData.strOk s && decide (s.length ≤ 16777216) | _ => false)
  | .bl b, e => (match e with | .Constant (.bool c) _ _ => decide (b = c) | _ => false)
  | .non, e => (match e with | .Constant .none _ _ => true | _ => false)
  | .glob g, e => (match e with | .Name x _ => (T.gname g).contains x && glB sc x | _ => false)
  | .bin op a b, e => (match e with | .BinOp l o r _ => bopB op o && mE T N sc a l && mE T N sc b r | _ => false)
  | .neg a, e => (match e with | .UnaryOp .USub x _ => mE T N sc a x | _ => false)
  | .cmp op a b, e => (match e with | .Compare l [o] [r] _ => copB op o && mE T N sc a l && mE T N sc b r && notSet r | _ => false)
  | .chain op op' a b c, e => (match e with | .Compare l [o, o'] [m, r] _ => copB op o && copB op' o' && mE T N sc a l && mE T N sc b m && mE T N sc c r && notSet r | _ => false)
  | .and es, e => (match e with | .BoolOp .And vs _ => mEs T N sc es vs | _ => false)
  | .or es, e => (match e with | .BoolOp .Or vs _ => mEs T N sc es vs | _ => false)
  | .not a, e => (match e with | .UnaryOp .Not x _ => mE T N sc a x | _ => false)
  | .ite c a b, e => (match e with | .IfExp t x y _ => mE T N sc c t && mE T N sc a x && mE T N sc b y | _ => false)
  | .call f es, e => (match e with | .Call (.Name x _) args [] _ => decide (x = T.fname f) && T.isFn f && decide (T.kwn f = 0) && glB sc x && mEs T N sc es args | _ => false)
  | .callK f es ks, e => (match e with | .Call (.Name x _) (a :: args) kws _ => decide (x = T.fname f) && T.isFn f && decide (T.kwn f ≠ 0) && glB sc x && mEs T N sc es (a :: args) && mKs T N sc ks kws && kwB kws ((T.params f).drop ((T.params f).length - T.kwn f)) | _ => false)
  | .idx a b, e => (match e with | .Subscript x y _ => notSlice y && mE T N sc a x && mE T N sc b y | _ => false)
  | .slice a lo hi, e => (match e with | .Subscript x (.Slice l h none _) _ => mE T N sc a x && mOq (isAbs lo) (mE T N sc lo) l && mOq (isAbs hi) (mE T N sc hi) h | _ => false)
  | .rev a, e => (match e with | .Subscript x (.Slice none none (some (.UnaryOp .USub (.Constant (.int 1) _ _) _)) _) _ => mE T N sc a x | _ => false)
  | .tup es, e => (match e with | .Tuple xs _ _ => mEs T N sc es xs | _ => false)
  | .frz l, e => mL T N sc l e
  | .shr l, e => mL T N sc l e
  | .bi f es, e => (match e with | .Call (.Name x _) args [] _ => decide (x = biName f) && glB sc x && biSimple f && !args.isEmpty && mEs T N sc es args | _ => false)
  | .isi f m, e => (match e with | .Call (.Name x _) [a, .Name y _] [] _ => decide (x = biName f) && glB sc x && decide (some y = (isTy f).map Str.ofString) && glB sc y && notStar a && mE T N sc m a | .Call (.Name x _) [a] [⟨some d, .Constant (.int z) _ _, _⟩] _ => isM0 f && decide (x = ("max" : Str)) && decide (d = ("default" : Str)) && decide (z = 0) && glB sc x && notStar a && mE T N sc m a | _ => false)
  | .lenOwn i, e => (match e with | .Call (.Name x _) [.Name y _] [] _ => decide (x = ("len" : Str)) && glB sc x && varB N sc i y | _ => false)
  | .idxOwn i b, e => (match e with | .Subscript (.Name y _) z _ => notSlice z && varB N sc i y && mE T N sc b z | _ => false)
  | .truOwn i, e => (match e with | .Name y _ => varB N sc i y | _ => false)
  | .dict0, e => (match e with | .Dict [] [] _ => true | _ => false)
  | .gdict g a, e => (match e with | .Subscript (.Name x _) y _ => decide (x = T.dname g) && glB sc x && notSlice y && mE T N sc a y | _ => false)
  | _, _ => false
def mEs (T : Tb) (N : List Str) (sc : Scope) : Es → List Expr → Bool
  | .nil, es => es.isEmpty
  | .cons m ms, es => (match es with | e :: r => notStar e && mE T N sc m e && mEs T N sc ms r | [] => false)
def mKs (T : Tb) (N : List Str) (sc : Scope) : Es → List Keyword → Bool
  | .nil, es => es.isEmpty
  | .cons m ms, es => (match es with | k :: r => mE T N sc m k.value && mKs T N sc ms r | [] => false)
def mL (T : Tb) (N : List Str) (sc : Scope) : Lx → Expr → Bool
  | .disp es, e => (match e with | .List xs _ => mEs T N sc es xs | _ => false)
  | .comp tg one it ifs elt, e => (match e with
    | .ListComp x [⟨t, i, fs, 0⟩] s _ => blkC N sc s (tg.map fun j => (N.getD j "", j)) && tgOk N (lclB s) one tg t && mI T N sc one it i && mEs T N (relS s sc) ifs fs && mE T N (relS s sc) elt x && notSet i
    | _ => false)
def mI (T : Tb) (N : List Str) (sc : Scope) (one : Bool) : It → Expr → Bool
  | .e m, e => mE T N sc m e
  | .range1 a, e => (match e with | .Call (.Name x _) [p] [] _ => decide (x = ("range" : Str)) && glB sc x && notStar p && mE T N sc a p | _ => false)
  | .range2 a b, e => (match e with | .Call (.Name x _) [p, q] [] _ => decide (x = ("range" : Str)) && glB sc x && notStar p && notStar q && mE T N sc a p && mE T N sc b q | _ => false)
  | .rev a, e => (match e with | .Call (.Name x _) [p] [] _ => decide (x = ("reversed" : Str)) && glB sc x && notStar p && mE T N sc a p | _ => false)
  | .zip a b, e => (match e with | .Call (.Name x _) [p, q] [] _ => !one && decide (x = ("zip" : Str)) && glB sc x && notStar p && notStar q && mE T N sc a p && mE T N sc b q | _ => false)
end

/-! ### what a text must be known for -/
def biAll : List Str := ["len", "abs", "int", "str", "max", "sum", "tuple", "list", "all", "isinstance", "bool", "range", "reversed", "zip", "repr"]
structure Facts (T : Tb) (G : Gx) (P : Program) (w : World) (mg : Str → Option Value) (base : Heap) (n : Nat) (call : CallF) : Prop where
  fn : ∀ f, T.isFn f = true → ∃ fa fd, mg (T.fname f) = some (.ref fa) ∧ PySem.W.keepIn G.K (.ref fa) = true ∧ FnG P w G.K mg base n fa fd (T.params f) (spF G (T.params f).length (call f)) ∧
    (T.kwn f = 0 → Binds G.K fd (T.params f) []) ∧ (T.kwn f ≠ 0 → KBinds G.K fd (T.params f) ((T.params f).drop ((T.params f).length - T.kwn f)) (kwG ((T.params f).drop ((T.params f).length - T.kwn f)).length) (kwG ((T.params f).drop ((T.params f).length - T.kwn f)).length))
  len : ∀ f ds S r, call f ds S = some r → ds.length = (T.params f).length
  glob : ∀ g d x, T.prg.glob g = some d → x ∈ T.gname g → ∃ v u, mg x = some u ∧ RelV v u ∧ ∀ (M : Mp) (n : Nat), Rp G M n d v
  gd : ∀ g k d, (T.prg.gdict g).lookup k = some d → ∃ p v, mg (T.dname g) = some (.ref p) ∧ KDct G.K w p k v ∧ ∀ (M : Mp) (n : Nat), Rp G M n d v
  bi : ∀ x ∈ biAll, mg x = none
structure Kx (T : Tb) (G : Gx) (n : Nat) (call : CallF) (X : Cx) (sc : Scope) : Prop where
  K : X.K = G.K
  calm : X.calm = true
  nd : X.N.Nodup
  kind : sc.kind = .function
  sc : X.env.scope = sc
  room : Room n X.A
  gd : X.A.guards = some []
  fc : Facts T G X.prog X.w X.mg X.base n call
section
variable {T : Tb} {G : Gx} {n : Nat} {call mk : CallF} {X : Cx} {sc : Scope}
theorem Kx.hu (k : Kx T G n call X sc) : X.A.units + 65 < cLine := by have := k.room.un; omega
theorem vis_of (k : Kx T G n call X sc) {x : Str} (h : visB sc x = true) : Vis X.env.scope x := by
  rw [k.sc]
  unfold visB at h
  unfold Vis
  split at h <;> first | exact nb h | (rename_i e; rw [e]; simp)
theorem gl_of (k : Kx T G n call X sc) {x : Str} (h : glB sc x = true) : Gl X x ∧ (x == ("__debug__" : Str)) = false := by
  unfold glB at h
  rw [Bool.and_eq_true] at h
  obtain ⟨h1, h2⟩ := h
  refine ⟨?_, by simpa using h2⟩
  show X.env.scope.names.lookup x = _
  rw [k.sc]
  split at h1
  · rename_i e; exact e
  · exact nb h1
theorem var_of (k : Kx T G n call X sc) {i : Nat} {x : Str} (h : varB X.N sc i x = true) : X.N[i]? = some x ∧ Vis X.env.scope x ∧ (x == ("__debug__" : Str)) = false ∧ (x == ("__classdict__" : Str)) = false := by
  unfold varB nmB at h
  simp only [Bool.and_eq_true, decide_eq_true_eq, Bool.not_eq_true'] at h
  exact ⟨h.1.1, vis_of k h.1.2, h.2.1, h.2.2⟩
theorem tru_of {e : Expr} (h : truForm e = true) (env : PySem.Env) : ∀ whole, isTrue e env whole = (do let v ← whole; standAt e.pos; holding [v] (truthy v)) := by
  intro whole
  cases e <;> first | rfl | exact nb h
theorem unmarked {o : CmpOp} {r : Expr} (h : notSet r = true) : behindInMarks o r = false := by
  cases r <;> first | rfl | exact nb h
theorem unmarked2 {o o' : CmpOp} {m r : Expr} (h : notSet r = true) : lastMarks [o, o'] [m, r] = false := by
  show behindInMarks o' r = false
  exact unmarked h
theorem nofold {i : Expr} (h : notSet i = true) (env : PySem.Env) : ∀ x, foldedSetIterable i env x = pure x := by
  intro x
  cases i <;> first | rfl | exact nb h
theorem kwB_len : ∀ {kws : List Keyword} {ns : List Str}, kwB kws ns = true → kws.length = ns.length
  | [], [], _ => rfl
  | [], _ :: _, h => nb h
  | _ :: _, [], h => nb h
  | k :: ks, n :: ns, h => congrArg Nat.succ (kwB_len (Bool.and_eq_true_iff.mp (show (decide (k.arg = some n) && kwB ks ns) = true from h)).2)
theorem kw_facts {pos : Pos} {env : PySem.Env} : ∀ {kws : List Keyword} {ns : List Str}, kwB kws ns = true → (backToKw pos (keywordEach kws env)).all (·.1.isSome) = true ∧ (backToKw pos (keywordEach kws env)).filterMap (·.1) = ns ∧ (backToKw pos (keywordEach kws env)).any (·.1.isNone) = false
  | [], [], _ => ⟨rfl, rfl, rfl⟩
  | [], _ :: _, h => nb h
  | _ :: _, [], h => nb h
  | ⟨nm, v, p⟩ :: ks, n :: ns, h => by
    have h : (decide (nm = some n) && kwB ks ns) = true := h
    rw [Bool.and_eq_true] at h
    have e := of_decide_eq_true h.1
    subst e
    obtain ⟨h1, h2, h3⟩ := kw_facts (pos := pos) (env := env) h.2
    have e : backToKw pos (keywordEach (⟨some n, v, p⟩ :: ks) env) = (some n, do let u ← eval v env; standAt pos; pure u) :: backToKw pos (keywordEach ks env) := rfl
    rw [e]
    refine ⟨?_, ?_, ?_⟩
    · rw [List.all_cons, h1] <;> rfl
    · rw [List.filterMap_cons, h2]
    · rw [List.any_cons, h3] <;> rfl
theorem lclB_of {s sc : Scope} {x : Str} (h : lclB s x = true) : (relS s sc).names.lookup x = some .local := by
  unfold lclB at h
  split at h
  · rename_i e
    exact lookup_relS_keep (by decide) e
  · exact nb h
/-- the context of a comprehension -/
theorem Kx.blk (k : Kx T G n call X sc) (s : Scope) (hs : s.kind = .function) (s0 : Shared) (H : Hp) (C : Addr) (cl : List (Str × Addr)) (fp : List Addr) : Kx T G n call (X.blk s0 H s (compEnvC s cl C X.env) fp) (relS s sc) :=
  ⟨k.K, k.calm, k.nd, hs, by show relS s X.env.scope = _; rw [k.sc], k.room, k.gd, k.fc⟩
end

/-! ### what passes the look does what HN says -/
theorem pe_len {X : Cx} {e : Expr} {t t' : TE} (h : PE X e t) (i : ∀ σ H Q, σ.length = X.N.length → t' σ H Q → t σ H Q) : PE X e t' := ⟨fun pins s σ H Q I q => h.run pins s σ H Q I (i _ _ _ I.len q)⟩
theorem pts_weak {X : Cx} {e : List Expr} {t t' : TT} (h : PTs X e t) (i : ∀ σ H Q, t' σ H Q → t σ H Q) : PTs X e t' := ⟨fun pins s σ H Q I q => h.run pins s σ H Q I (i _ _ _ q)⟩
theorem pe_no {X : Cx} {G : Gx} {e : Expr} : PE X e (tEf G fun _ _ => none) := ⟨fun _ _ _ _ _ _ h => by obtain ⟨M, S, ρ, d, S', _, _, h, _⟩ := h; cases h⟩
theorem pl_no {X : Cx} {G : Gx} {e : Expr} : PE X e (tLf G fun _ _ => none) := ⟨fun _ _ _ _ _ _ h => by obtain ⟨M, S, ρ, d, S', _, _, h, _⟩ := h; cases h⟩
theorem pw_no {X : Cx} {G : Gx} {e : Expr} : PW X e (tTf G fun _ _ => none) := ⟨fun _ _ _ _ _ _ _ h => by obtain ⟨M, S, ρ, d, S', _, _, h, _⟩ := h; cases h⟩
theorem pt_no {X : Cx} {G : Gx} {e : Expr} : PT X e (tTf G fun _ _ => none) := ⟨fun _ _ _ _ _ _ h => by obtain ⟨M, S, ρ, d, S', _, _, h, _⟩ := h; cases h⟩
theorem pts_no {X : Cx} {G : Gx} {e : List Expr} : PTs X e (tTf G fun _ _ => none) := ⟨fun _ _ _ _ _ _ h => by obtain ⟨M, S, ρ, d, S', _, _, h, _⟩ := h; cases h⟩
section
variable {T : Tb} {G : Gx} {n : Nat} {call mk : CallF} {X : Cx} {sc : Scope}
theorem bi_fact (k : Kx T G n call X sc) {x : Str} (h : x ∈ biAll) : X.mg x = none := k.fc.bi x h
/-- a simple built-in function -/
theorem bi_rule (k : Kx T G n call X sc) {f : Bi} {x : Str} {p pos : Pos} {e : Expr} {es : List Expr} {fs : Env → Store → Option (List D × Store)} (hf : biSimple f = true) (hx : x = biName f) (hg : glB sc x = true) (ha : PA X (e :: es) (tAf G fs)) (hs : notStar e = true) (hss : es.all notStar = true) :
    PE X (.Call (.Name x p) (e :: es) [] pos) (tEf G fun ρ S => (fs ρ S).bind fun x => (biD x.2 f x.1).map fun d => (d, x.2)) := by
  obtain ⟨g1, g2⟩ := gl_of k hg
  have hK := k.K
  have hm : X.mg x = none := by
    subst hx
    refine k.fc.bi _ ?_
    cases f <;> decide +kernel
  subst hx
  cases f with
  | len => exact s_biB (ok_len) (by rw [← hK]; exact call_len) g1 hm PySem.boot_len ha (by decide) g2 hs hss
  | abs => exact s_biB ok_abs call_abs g1 hm (by decide +kernel) ha (by decide) g2 hs hss
  | int => exact s_biT ok_int1 call_int1 g1 hm (by decide +kernel) ha (by decide) g2 hs hss
  | str => exact s_biT ok_str1 call_str_int g1 hm (by decide +kernel) ha (by decide) g2 hs hss
  | max1 => exact s_biB ok_max1 (by rw [← hK]; exact cr_max k.calm) g1 hm (by decide +kernel) ha (by decide) g2 hs hss
  | max2 => exact s_biB ok_max2 (call_max2 k.calm) g1 hm (by decide +kernel) ha (by decide) g2 hs hss
  | sum => exact s_biB ok_sum (by rw [← hK]; exact cr_sum k.calm) g1 hm (by decide +kernel) ha (by decide) g2 hs hss
  | tuple => exact s_biT ok_tuple (by rw [← hK]; exact call_tuple_of) g1 hm (by decide +kernel) ha (by decide) g2 hs hss
  | repr => exact s_biB ok_repr (by rw [← hK]; exact cr_repr k.gd k.hu) g1 hm (by decide +kernel) ha (by decide) g2 hs hss
  | list => exact s_biT ok_list (by rw [← hK]; exact cr_or call_list_of (call_list_dT k.calm)) g1 hm (by decide +kernel) ha (by decide) g2 hs hss
  | all => exact s_biB ok_all (by rw [← hK]; exact cr_all k.calm) g1 hm (by decide +kernel) ha (by decide) g2 hs hss
  | _ => exact nb hf
/-- {} -/
theorem s_dict0 {pos : Pos} : PE X (.Dict [] [] pos) (tEf G fun _ S => some (.dic, S)) := by
  refine pe_weak pe_dnewT fun σ H Q h => ?_
  obtain ⟨M, S, ρ, d, S', rl, en, h, kk⟩ := h
  cases h
  intro p hp
  obtain ⟨r2, x2⟩ := rel_fin (o := .dT []) rl hp
  exact kk _ _ _ r2 x2 ⟨p, rfl, upd_same⟩
theorem kit_tab (T : String) (hT : T ∈ ["tuple", "str", "int", "bool", "list"]) : ∀ t, t ∈ ["NoneType", "bool", "int", "str", "tuple", "list"] → kitB t T = some (isT T t) := by
  have h : ∀ T ∈ ["tuple", "str", "int", "bool", "list"], ∀ t ∈ ["NoneType", "bool", "int", "str", "tuple", "list"], kitB t T = some (isT T t) := by decide +kernel
  exact h T hT
theorem is_rule (k : Kx T G n call X sc) {f : Bi} {t : String} {x y : Str} {p p2 pos : Pos} {e : Expr} {fe : Env → Store → Option (D × Store)} (hf : isTy f = some t) (hx : x = biName f) (hg : glB sc x = true) (hy : y = (t : Str)) (hg2 : glB sc y = true) (he : PE X e (tEf G fe)) (hs : notStar e = true) :
    PE X (.Call (.Name x p) [e, .Name y p2] [] pos) (tEf G fun ρ S => (fe ρ S).bind fun x => (biD x.2 f [x.1]).map fun d => (d, x.2)) := by
  obtain ⟨g1, _⟩ := gl_of k hg
  obtain ⟨g3, g4⟩ := gl_of k hg2
  have hx2 : x = "isinstance" := by cases f <;> first | exact hx | exact nn hf
  have hm : X.mg x = none := by rw [hx2]; exact k.fc.bi _ (by decide +kernel)
  have fin : ∀ (T : String), T ∈ ["tuple", "str", "int", "bool", "list"] → y = (T : Str) → X.mg y = none → bootBuiltins y = some (.type T) → y ≠ "__name__" → (∀ S d, biD S f [d] = isTD S T d) → PE X (.Call (.Name x p) [e, .Name y p2] [] pos) (tEf G fun ρ S => (fe ρ S).bind fun x => (biD x.2 f [x.1]).map fun d => (d, x.2)) := fun T hT hy hmy hv hn hb => by
    refine pe_weak (s_isinst (T := T) k.K hx2 g1 hm g3 hmy hv hn g4 he hs (kit_tab T hT)) fun σ H Q h => ?_
    obtain ⟨M, S, ρ, d, S', rl, en, h, kk⟩ := h
    refine ⟨M, S, ρ, d, S', rl, en, ?_, kk⟩
    obtain ⟨r, hr, h⟩ := Option.bind_eq_some_iff.mp h
    obtain ⟨z, hz, h⟩ := Option.map_eq_some_iff.mp h
    have hz : biD r.2 f [r.1] = some z := hz
    rw [hb] at hz
    obtain ⟨t, ht, e2⟩ := Option.map_eq_some_iff.mp (show (tyD r.2 r.1).map (fun t => D.bl (isT T t)) = some z from hz)
    refine Option.bind_eq_some_iff.mpr ⟨r, hr, Option.map_eq_some_iff.mpr ⟨t, ht, ?_⟩⟩
    rw [← h, ← e2]
  have mg : y ∈ biAll → X.mg y = none := fun h => k.fc.bi _ h
  cases f <;> first | exact nn hf | skip
  · have e := Option.some.inj hf; subst e; subst hy; exact fin "tuple" (by simp) rfl (mg (by decide +kernel)) (by decide +kernel) (by decide) fun _ _ => rfl
  · have e := Option.some.inj hf; subst e; subst hy; exact fin "str" (by simp) rfl (mg (by decide +kernel)) (by decide +kernel) (by decide) fun _ _ => rfl
  · have e := Option.some.inj hf; subst e; subst hy; exact fin "int" (by simp) rfl (mg (by decide +kernel)) (by decide +kernel) (by decide) fun _ _ => rfl
  · have e := Option.some.inj hf; subst e; subst hy; exact fin "bool" (by simp) rfl (mg (by decide +kernel)) (by decide +kernel) (by decide) fun _ _ => rfl
  · have e := Option.some.inj hf; subst e; subst hy; exact fin "list" (by simp) rfl (mg (by decide +kernel)) (by decide +kernel) (by decide) fun _ _ => rfl
theorem s_gdict (k : Kx T G n call X sc) {g : Nat} {x : Str} {e : Expr} {fe : Env → Store → Option (D × Store)} {p pos : Pos} (hx : x = T.dname g) (hg : glB sc x = true) (he : PE X e (tEf G fe)) (hs : notSlice e = true) :
    PE X (.Subscript (.Name x p) e pos) (tEf G fun ρ S => (fe ρ S).bind fun x => match x with | (.str s, S1) => ((T.prg.gdict g).lookup s).map fun d => (d, S1) | _ => none) := by
  obtain ⟨g1, g2⟩ := gl_of k hg
  by_cases hex : ∃ u, X.mg x = some u ∧ ∃ q, u = .ref q
  · obtain ⟨u, hu, q, eu⟩ := hex
    subst eu
    refine pe_weak (pe_ix ix_kdict (pe_glob g1 hu (show RelV (.ref q) (.ref q) from rfl) g2) he (plainIx_of hs)) fun σ H Q h => ?_
    obtain ⟨M, S, ρ, d, S', rl, en, h, kk⟩ := h
    obtain ⟨⟨x1, x2⟩, hx1, h2⟩ := Option.bind_eq_some_iff.mp h
    clear h
    cases x1 with
    | str z =>
      obtain ⟨d', hd, h2⟩ := Option.map_eq_some_iff.mp (show ((T.prg.gdict g).lookup z).map (fun d => (d, x2)) = some (d, S') from h2)
      cases h2
      obtain ⟨p', v, f1, f2, f3⟩ := k.fc.gd g z d hd
      refine tEf.mk rl en hx1 fun w M1 H1 r1 q1 p1 => ?_
      obtain ⟨e1, _⟩ := p1
      rw [← hx, hu] at f1
      cases f1
      exact ⟨q, z, v, rfl, e1, by rw [k.K]; exact f2, kk v M1 H1 r1 q1 (f3 M1 _)⟩
    | _ => exact nn h2
  · refine ⟨fun pins s σ H Q I h => ?_⟩
    obtain ⟨M, S, ρ, d, S', rl, en, h, kk⟩ := h
    obtain ⟨⟨x1, x2⟩, hx1, h2⟩ := Option.bind_eq_some_iff.mp h
    cases x1 with
    | str z =>
      obtain ⟨d', hd, h2⟩ := Option.map_eq_some_iff.mp (show ((T.prg.gdict g).lookup z).map (fun d => (d, x2)) = some (d, S') from h2)
      obtain ⟨p', v, f1, _⟩ := k.fc.gd g z d' hd
      exact absurd ⟨_, by rw [hx]; exact f1, p', rfl⟩ hex
    | _ => exact nn h2
/-- reading a name's own list -/
theorem s_lenOwn (k : Kx T G n call X sc) {i : Nat} {x y : Str} {p p2 pos : Pos} (hx : x = "len") (hg : glB sc x = true) (hy : varB X.N sc i y = true) : PE X (.Call (.Name x p) [.Name y p2] [] pos) (tEf G fun ρ S => (getO ρ i).map fun l => (.int l.length, S)) := by
  obtain ⟨g1, g2⟩ := gl_of k hg
  obtain ⟨v1, v2, v3, v4⟩ := var_of k hy
  subst hx
  refine pe_weak (pe_callB call_len g1 (k.fc.bi _ (by decide +kernel)) PySem.boot_len (pa_cons (pe_var v1 v2 v3 v4) pa_nil (star_cons rfl)) (by decide) g2 (star_cons rfl) (plain_any rfl)) fun σ H Q h => ?_
  obtain ⟨M, S, ρ, d, S', rl, en, h, kk⟩ := h
  obtain ⟨l, hl, h⟩ := Option.map_eq_some_iff.mp h
  cases h
  obtain ⟨h0, q, vs, h1, h2, h3, h4, h5⟩ := en.getO hl
  exact ⟨_, h1, _, vs.length, rfl, .inl ⟨vs, SqL.of h2, rfl⟩, kk _ M H rl .refl (by rw [h3.length]; rfl)⟩
theorem s_idxOwn (k : Kx T G n call X sc) {i : Nat} {y : Str} {b : Expr} {fb : Env → Store → Option (D × Store)} {p2 pos : Pos} (hy : varB X.N sc i y = true) (hb : PE X b (tEf G fb)) (hs : notSlice b = true) :
    PE X (.Subscript (.Name y p2) b pos) (tEf G fun ρ S => (fb ρ S).bind fun y => (getO ρ i).bind fun l => match y.1 with | .int k => (atI l k).map fun d => (d, y.2) | _ => none) := by
  obtain ⟨v1, v2, v3, v4⟩ := var_of k hy
  refine pe_weak (pe_ix ix_seq (pe_var v1 v2 v3 v4) hb (plainIx_of hs)) fun σ H Q h => ?_
  obtain ⟨M, S, ρ, d, S', rl, en, h, kk⟩ := h
  obtain ⟨⟨x1, x2⟩, hx1, h⟩ := Option.bind_eq_some_iff.mp h
  obtain ⟨l, hl, h⟩ := Option.bind_eq_some_iff.mp h
  cases x1 with
  | int j =>
    obtain ⟨d', hd, h⟩ := Option.map_eq_some_iff.mp (show (atI l j).map (fun d => (d, x2)) = some (d, S') from h)
    cases h
    obtain ⟨h0, q, vs, h1, h2, h3, h4, h5⟩ := en.getO hl
    refine ⟨_, h1, tEf.mk rl en hx1 fun w M1 H1 r1 q1 p1 => ?_⟩
    obtain ⟨z1, z2, z3⟩ := q1.fgn q _ h2 h4 h5
    obtain ⟨u, u1, u2⟩ := (h3.up q1.up).ati hd
    exact .inl ⟨q, vs, j, u, rfl, p1, SqL.of z1, u1, kk u M1 H1 r1 q1 u2⟩
  | _ => exact nn h
theorem t_truOwn (k : Kx T G n call X sc) {i : Nat} {y : Str} {p2 : Pos} (hy : varB X.N sc i y = true) : PT X (.Name y p2) (tTf G fun ρ S => (getO ρ i).map fun l => (!l.isEmpty, S)) := by
  obtain ⟨v1, v2, v3, v4⟩ := var_of k hy
  refine pt_weak (pt_truth (pe_var v1 v2 v3 v4) (tru_of rfl _)) fun σ H Q h => ?_
  obtain ⟨M, S, ρ, d, S', rl, en, h, kk⟩ := h
  obtain ⟨l, hl, h⟩ := Option.map_eq_some_iff.mp h
  cases h
  obtain ⟨h0, q, vs, h1, h2, h3, h4, h5⟩ := en.getO hl
  refine ⟨_, h1, _, .inl ⟨vs, SqL.of h2, ?_⟩, kk M H rl .refl⟩
  have hl := h3.length
  cases l <;> cases vs <;> first | rfl | simp at hl
end
end HN

/-! Every expression that passes the look does what HN says. -/
namespace HN
open PySem L2
section
variable {T : Tb} {G : Gx} {n : Nat} {call mk : CallF}
theorem and2 {a b : Bool} (h : (a && b) = true) : a = true ∧ b = true := by rw [Bool.and_eq_true] at h; exact h
/-- what is shown of a list's rule: as a value, and as what a name is set to -/
def LOk (G : Gx) (X : Cx) (sc : Scope) (e : Expr) (f : Env → Store → Option (List D × Store)) : Prop :=
  ∃ te : TE, PE X e te ∧ (∀ σ H Q, σ.length = X.N.length → tLf G f σ H Q → te σ H Q) ∧
    ∀ (i : Nat) (x : Str) (py pos : Pos), X.N[i]? = some x → Loc X.env.scope x → (X.fn x = true ∨ X.env.scope.names.lookup x = some .local) →
      (notComp e = true ∨ (∃ el gs s p, e = .ListComp el gs s p ∧ ((X.env.scope.names.lookup x = some .local ∧ (py.line == p.line) = true ∧ (s.names.any fun (n, k) => n == x && (k == .local || k == .cell)) = false) ∨ X.env.scope.names.lookup x = some .cell))) →
      PS X (.Assign [.Name x py] e pos) (tAsg te (gName i))
theorem lok_pe {X : Cx} {sc : Scope} {e : Expr} {f : Env → Store → Option (List D × Store)} (h : LOk G X sc e f) : PE X e (tLf G f) := by
  obtain ⟨te, h1, h2, _⟩ := h
  exact pe_len h1 fun σ H Q hl q => h2 σ H Q hl q
/-- a comprehension -/
theorem lok_comp {X : Cx} {sc : Scope} (k : Kx T G n call X sc) {elt t i : Expr} {fs : List Expr} {s : Scope} {pos : Pos} {tg : List Nat} {one : Bool} {fw : Env → Store → Option ((List D × Option (Nat × List D)) × Store)} {fi : Env → Store → Option (Bool × Store)} {fe : Env → Store → Option (D × Store)}
    (hb : blkC X.N sc s (tg.map fun j => (X.N.getD j "", j)) = true) (ht : tgOk X.N (lclB s) one tg t = true) (hi : PIf X G t i fw) (hns : notSet i = true)
    (hfs : ∀ X', Kx T G n call X' (relS s sc) → X'.N = X.N → PTs X' fs (tTf G fi)) (he : ∀ X', Kx T G n call X' (relS s sc) → X'.N = X.N → PE X' elt (tEf G fe)) :
    LOk G X sc (.ListComp elt [⟨t, i, fs, 0⟩] s pos) (fun ρ S => (fw ρ S).bind fun w => if decide (w.1.1.length ≤ 16777216) then compD (turnC one tg w.1.2 fi fe ρ) w.1.1 w.2 else none) := by
  obtain ⟨wi, pi, ri⟩ := hi.ex
  have hsc := k.sc
  have hblk : BlkOk X.N X.env.scope s (tg.map fun j => (X.N.getD j "", j)) := blkOk_by (by rw [hsc]; exact hb)
  have hown : (tg.map fun j => (X.N.getD j "", j)).map (·.2) = tg := by rw [List.map_map]; exact List.map_id' tg
  have pg : ∀ X' : Cx, Kx T G n call X' (relS s sc) → X'.N = X.N → PG X' t (gOf G.K one tg) ∧ ∀ i ∈ tg, i < X.N.length := fun X' k' hN => by
    have h := pg_of (X := X') (nm := lclB s) (one := one) (is := tg) (tg := t) k'.calm k'.nd (fun x hx => by
      have z : X'.env.scope.names.lookup x = some .local := by rw [k'.sc]; exact lclB_of hx
      exact ⟨.inl z, .inr z⟩) (by rw [hN]; exact ht)
    rw [k'.K, hN] at h
    exact h
  have kb := fun (s0 : Shared) (H : Hp) (C : Addr) (cl : List (Str × Addr)) (fp : List Addr) => k.blk s hblk.kind s0 H C cl fp
  have hgl : ∀ i ∈ tg, i < X.N.length := (pg _ (kb { } (fun _ => none) 0 [] []) rfl).2
  have read : ∀ σ H Q, σ.length = X.N.length → tLf G (fun ρ S => (fw ρ S).bind fun w => if decide (w.1.1.length ≤ 16777216) then compD (turnC one tg w.1.2 fi fe ρ) w.1.1 w.2 else none) σ H Q →
      tLc wi (gOf G.K one tg) (tTf G fi) (tEf G fe) ((tg.map fun j => (X.N.getD j "", j)).map (·.2)) σ H Q := fun σ H Q hl h => by
    rw [hown]
    obtain ⟨M, S, ρ, d, S', rl, en, h, kk⟩ := h
    obtain ⟨⟨w, S0⟩, hw, h⟩ := Option.bind_eq_some_iff.mp h
    split at h
    · rename_i c
      refine ri σ H _ M S ρ w S0 rl en hw fun J M1 H1 r1 x1 io kp D0 hD => ?_
      refine comp_read (fun i hi => by rw [en.len, hl]; exact hgl i hi) (fun _ _ _ z => z) (fun _ _ _ z => z) r1 (en.ext x1) io kp (of_decide_eq_true c) h (fun p vs M2 H2 r2 x2 p2 hp hn f1 f2 => ?_) D0 hD
      exact kk p vs M2 H2 r2 (x1.trans x2) p2 hp (x1.fresh rl r1 hn) f1 f2
    · cases h
  refine ⟨_, pe_lc k.calm k.nd pi hblk (fun s0 H C cl fp => (pg _ (kb s0 H C cl fp) rfl).1) (fun s0 H C cl fp => hfs _ (kb s0 H C cl fp) rfl) (fun s0 H C cl fp => he _ (kb s0 H C cl fp) rfl) (nofold hns _), read, fun j x py pos' hN hx hf hc => ?_⟩
  rcases hc with hc | ⟨el, gs, s', p, ec, hc⟩
  · cases hc
  · cases ec
    rcases hc with ⟨c1, c2, c3⟩ | c
    · exact ps_setLc k.calm k.nd hN c1 (sw_true (by rw [k.sc]; exact k.kind) c1 c2 c3) pi hblk (fun s0 H C cl fp => (pg _ (kb s0 H C cl fp) rfl).1) (fun s0 H C cl fp => hfs _ (kb s0 H C cl fp) rfl) (fun s0 H C cl fp => he _ (kb s0 H C cl fp) rfl) (nofold hns _)
    · refine ps_set k.nd hN hx (pe_lc k.calm k.nd pi hblk (fun s0 H C cl fp => (pg _ (kb s0 H C cl fp) rfl).1) (fun s0 H C cl fp => hfs _ (kb s0 H C cl fp) rfl) (fun s0 H C cl fp => he _ (kb s0 H C cl fp) rfl) (nofold hns _)) ?_ hf
      have ky : X.env.kindOf x = some .cell := c
      unfold swapsWith
      simp only [ky]
      rw [show (some NameKind.cell == some NameKind.local) = false from rfl, Bool.and_false, Bool.false_and, Bool.false_and]
theorem tup_of {N : List Str} {nm : Str → Bool} {is : List Nat} {t : Expr} (h : tgOk N nm false is t = true) : ∃ es j p, t = .Tuple es j p := by
  cases t with
  | Tuple es j p => exact ⟨es, j, p, rfl⟩
  | _ => exact nb h
theorem pof_ok {X : Cx} {m : E} {f : Expr → Bool} {o : Option Expr} (h : mOq (isAbs m) f o = true) (he : ∀ e, f e = true → PE X e (tEf G (evE T.prg call mk m))) : POf X G o (isAbs m) (evE T.prg call mk m) := by
  cases o with
  | none =>
    cases m with
    | absent => exact pof_none
    | _ => exact nb h
  | some e =>
    obtain ⟨h1, h2⟩ := and2 h
    have h1 : isAbs m = false := by simpa using h1
    rw [h1]
    exact pof_some (he e h2)
def esLen : Es → Nat
  | .nil => 0
  | .cons _ r => esLen r + 1
theorem evEs_len {P : Prg} {c m : CallF} : ∀ (ms : Es) (ρ : Env) (S : Store) (r : List D × Store), evEs P c m ms ρ S = some r → r.1.length = esLen ms
  | .nil, _, _, _, h => by cases h; rfl
  | .cons e ms, ρ, S, r, h => by
    obtain ⟨x, _, h⟩ := Option.bind_eq_some_iff.mp (show (evE P c m e ρ S).bind (fun x => (evEs P c m ms ρ x.2).map fun y => (x.1 :: y.1, y.2)) = some r from h)
    obtain ⟨y, hy, h⟩ := Option.map_eq_some_iff.mp h
    subst h
    exact congrArg Nat.succ (evEs_len ms ρ x.2 y hy)
theorem mKs_len {N : List Str} {sc : Scope} : ∀ (ms : Es) (es : List Keyword), mKs T N sc ms es = true → esLen ms = es.length
  | .nil, [], _ => rfl
  | .nil, _ :: _, h => nb h
  | .cons m ms, [], h => nb h
  | .cons m ms, k :: r, h => congrArg Nat.succ (mKs_len ms r (and2 (show (mE T N sc m k.value && mKs T N sc ms r) = true from h)).2)
set_option maxHeartbeats 4000000
mutual
theorem okE : ∀ (m : E) (e : Expr) (X : Cx) (sc : Scope), Kx T G n call X sc → mE T X.N sc m e = true → PE X e (tEf G (evE T.prg call mk m))
  | .var i, e, X, sc, k, h => by
    cases e with
    | Name x pos =>
      obtain ⟨v1, v2, v3, v4⟩ := var_of k (show varB X.N sc i x = true from h)
      exact s_var v1 v2 v3 v4
    | _ => exact nb h
  | .int i, e, X, sc, k, h => by
    cases e with
    | Constant c j pos =>
      cases c with
      | int z =>
        have h := of_decide_eq_true h
        subst h
        exact s_const pe_int fun _ _ => rfl
      | _ => exact nb h
    | _ => exact nb h
  | .str s, e, X, sc, k, h => by
    cases e with
    | Constant c j pos =>
      cases c with
      | str z =>
        have h : (decide (s = z) && PyData.strOk s && decide (s.length ≤ 16777216)) = true := h
        obtain ⟨h1, h2⟩ := and2 h
        obtain ⟨h1, h3⟩ := and2 h1
        have h1 := of_decide_eq_true h1
        subst h1
        exact s_const pe_str fun _ _ => ⟨rfl, h3, of_decide_eq_true h2⟩
      | _ => exact nb h
    | _ => exact nb h
  | .bl b, e, X, sc, k, h => by
    cases e with
    | Constant c j pos =>
      cases c with
      | bool z =>
        have h := of_decide_eq_true h
        subst h
        exact s_const pe_bl fun _ _ => rfl
      | _ => exact nb h
    | _ => exact nb h
  | .non, e, X, sc, k, h => by
    cases e with
    | Constant c j pos =>
      cases c with
      | none => exact s_const pe_non fun _ _ => rfl
      | _ => exact nb h
    | _ => exact nb h
  | .glob g, e, X, sc, k, h => by
    cases e with
    | Name x pos =>
      obtain ⟨h1, h2⟩ := and2 h
      have h1 := List.contains_iff_mem.mp h1
      obtain ⟨g1, g2⟩ := gl_of k h2
      exact s_glob g1 g2 fun d hd => k.fc.glob g d x hd h1
    | _ => exact nb h
  | .absent, e, X, sc, k, h => nb h
  | .bin op a b, e, X, sc, k, h => by
    cases e with
    | BinOp l o r pos =>
      obtain ⟨h1, h2⟩ := and2 h
      obtain ⟨h1, h3⟩ := and2 h1
      exact s_bin k.K h1 (okE a l X sc k h3) (okE b r X sc k h2)
    | _ => exact nb h
  | .neg a, e, X, sc, k, h => by
    cases e with
    | UnaryOp o x pos =>
      cases o with
      | USub => exact s_neg (okE a x X sc k h)
      | _ => exact nb h
    | _ => exact nb h
  | .cmp op a b, e, X, sc, k, h => by
    cases e with
    | Compare l os rs pos =>
      match os, rs, h with
      | [o], [r], h =>
        obtain ⟨h1, h2⟩ := and2 h
        obtain ⟨h1, h3⟩ := and2 h1
        obtain ⟨h1, h4⟩ := and2 h1
        exact s_cmp k.hu k.K h1 (okE a l X sc k h4) (okE b r X sc k h3) (unmarked h2)
      | [], _, h => exact nb h
      | [_], [], h => exact nb h
      | [_], _ :: _ :: _, h => exact nb h
      | _ :: _ :: _, [], h => exact nb h
      | _ :: _ :: _, _ :: _, h => exact nb h
    | _ => exact nb h
  | .chain op op' a b c, e, X, sc, k, h => by
    cases e with
    | Compare l os rs pos =>
      match os, rs, h with
      | [o, o'], [m, r], h =>
        obtain ⟨h1, h2⟩ := and2 h
        obtain ⟨h1, h3⟩ := and2 h1
        obtain ⟨h1, h4⟩ := and2 h1
        obtain ⟨h1, h5⟩ := and2 h1
        obtain ⟨h1, h6⟩ := and2 h1
        exact s_chain k.hu k.K h1 h6 (okE a l X sc k h5) (okE b m X sc k h4) (okE c r X sc k h3) (unmarked2 h2)
      | [], _, h => exact nb h
      | [_], _, h => exact nb h
      | _ :: _ :: _ :: _, _, h => exact nb h
      | [_, _], [], h => exact nb h
      | [_, _], [_], h => exact nb h
      | [_, _], _ :: _ :: _ :: _, h => exact nb h
    | _ => exact nb h
  | .and es, e, X, sc, k, h => by
    cases e with
    | BoolOp o vs pos =>
      cases o with
      | And => exact okAnd es vs pos X sc k h
      | Or => exact nb h
    | _ => exact nb h
  | .or es, e, X, sc, k, h => by
    cases e with
    | BoolOp o vs pos =>
      cases o with
      | Or => exact okOr es vs pos X sc k h
      | And => exact nb h
    | _ => exact nb h
  | .not a, e, X, sc, k, h => by
    cases e with
    | UnaryOp o x pos =>
      cases o with
      | Not => exact s_not (okE a x X sc k h)
      | _ => exact nb h
    | _ => exact nb h
  | .ite c a b, e, X, sc, k, h => by
    cases e with
    | IfExp t x y pos =>
      obtain ⟨h1, h2⟩ := and2 h
      obtain ⟨h1, h3⟩ := and2 h1
      exact s_ite (okT c t X sc k h1) (okE a x X sc k h3) (okE b y X sc k h2)
    | _ => exact nb h
  | .call f es, e, X, sc, k, h => by
    cases e with
    | Call g args kws pos =>
      cases g with
      | Name x p =>
        cases kws with
        | nil =>
          obtain ⟨h1, h2⟩ := and2 h
          obtain ⟨h1, h3⟩ := and2 h1
          obtain ⟨h1, h4⟩ := and2 h1
          obtain ⟨h1, h5⟩ := and2 h1
          have h1 := of_decide_eq_true h1
          have h4 := of_decide_eq_true h4
          subst h1
          obtain ⟨g1, g2⟩ := gl_of k h3
          obtain ⟨fa, fd, m1, m2, m3, m4, _⟩ := k.fc.fn f h5
          have b := m4 h4
          obtain ⟨a1, a2⟩ := okEs es args X sc k h2
          rw [← k.K] at m2 m3 b
          cases args with
          | nil =>
            have z := s_call0 (cf := call f) m3 k.room k.gd g1 m1 m2 b (k.fc.len f) g2 (p := p) (pos := pos)
            cases es with
            | nil => exact z
            | cons _ _ => exact nb h2
          | cons a args =>
            rw [List.all_cons] at a2
            obtain ⟨a2, a3⟩ := and2 a2
            exact s_call (cf := call f) m3 k.room k.gd g1 m1 m2 b (k.fc.len f) a1 g2 a2 a3
        | cons _ _ => exact nb h
      | _ => exact nb h
    | _ => exact nb h
  | .callK f es ks, e, X, sc, k, h => by
    cases e with
    | Call g args kws pos =>
      cases g with
      | Name x p =>
        cases args with
        | nil => exact nb h
        | cons a args =>
          obtain ⟨h1, h2⟩ := and2 h
          obtain ⟨h1, h3⟩ := and2 h1
          obtain ⟨h1, h4⟩ := and2 h1
          obtain ⟨h1, h5⟩ := and2 h1
          obtain ⟨h1, h6⟩ := and2 h1
          obtain ⟨h1, h7⟩ := and2 h1
          have h1 := of_decide_eq_true h1
          have h6 := of_decide_eq_true h6
          subst h1
          obtain ⟨g1, g2⟩ := gl_of k h5
          obtain ⟨fa, fd, m1, m2, m3, _, m5⟩ := k.fc.fn f h7
          have b := m5 h6
          obtain ⟨a1, a2⟩ := okEs es (a :: args) X sc k h4
          rw [← k.K] at m2 m3 b
          rw [List.all_cons] at a2
          obtain ⟨a2, a3⟩ := and2 a2
          obtain ⟨k1, k2, k3⟩ := kw_facts (pos := pos) (env := X.env) h2
          exact s_callK (cf := call f) m3 k.room k.gd g1 m1 m2 b (fun ρ S r hr => by rw [evEs_len ks ρ S r hr, mKs_len ks kws h3]; exact kwB_len h2) (k.fc.len f) a1 (okKs ks kws X sc k h3) k1 k2 k3 g2 a2 a3
      | _ => exact nb h
    | _ => exact nb h
  | .idx a b, e, X, sc, k, h => by
    cases e with
    | Subscript x y pos =>
      obtain ⟨h1, h2⟩ := and2 h
      obtain ⟨h1, h3⟩ := and2 h1
      exact s_idx k.K (okE a x X sc k h3) (okE b y X sc k h2) h1
    | _ => exact nb h
  | .slice a lo hi, e, X, sc, k, h => by
    cases e with
    | Subscript x y pos =>
      cases y with
      | Slice l u st p2 =>
        cases st with
        | none =>
          obtain ⟨h1, h2⟩ := and2 h
          obtain ⟨h1, h3⟩ := and2 h1
          exact s_slice k.K (okE a x X sc k h1) (pof_ok h3 fun e he => okE lo e X sc k he) (pof_ok h2 fun e he => okE hi e X sc k he)
        | some _ => exact nb h
      | _ => exact nb h
    | _ => exact nb h
  | .rev a, e, X, sc, k, h => by
    cases e with
    | Subscript x y pos =>
      cases y with
      | Slice l u st p2 =>
        match l, u, st, h with
        | none, none, some (.UnaryOp .USub (.Constant (.int 1) j p1) p3), h => exact s_rev k.K (okE a x X sc k h)
      | _ => exact nb h
    | _ => exact nb h
  | .tup es, e, X, sc, k, h => by
    cases e with
    | Tuple xs j pos => exact s_tup (okEs es xs X sc k h).1
    | _ => exact nb h
  | .frz l, e, X, sc, k, h => s_frz (lok_pe (okL l e X sc k h))
  | .shr l, e, X, sc, k, h => s_shr (lok_pe (okL l e X sc k h))
  | .bi f es, e, X, sc, k, h => by
    cases e with
    | Call g args kws pos =>
      cases g with
      | Name x p =>
        cases kws with
        | nil =>
          obtain ⟨h1, h2⟩ := and2 h
          obtain ⟨h1, h3⟩ := and2 h1
          obtain ⟨h1, h4⟩ := and2 h1
          obtain ⟨hx, h5⟩ := and2 h1
          obtain ⟨a1, a2⟩ := okEs es args X sc k h2
          cases args with
          | nil => exact nb h3
          | cons a args =>
            rw [List.all_cons] at a2
            obtain ⟨a2, a3⟩ := and2 a2
            exact bi_rule k h4 (of_decide_eq_true hx) h5 a1 a2 a3
        | cons _ _ => exact nb h
      | _ => exact nb h
    | _ => exact nb h
  | .isi f m, e, X, sc, k, h => by
    match e, h with
    | .Call (.Name x p) [a, .Name y p2] [] pos, h =>
      obtain ⟨h1, h2⟩ := and2 h
      obtain ⟨h1, h3⟩ := and2 h1
      obtain ⟨h1, h4⟩ := and2 h1
      obtain ⟨h1, h5⟩ := and2 h1
      obtain ⟨h1, h6⟩ := and2 h1
      obtain ⟨t, q, e⟩ := Option.map_eq_some_iff.mp (of_decide_eq_true h5).symm
      exact is_rule k q (of_decide_eq_true h1) h6 e.symm h4 (okE m a X sc k h2) h3
    | .Call (.Name x p) [a] [⟨some d, .Constant (.int z) j cp, kp⟩] pos, h =>
      obtain ⟨h1, h2⟩ := and2 h
      obtain ⟨h1, h3⟩ := and2 h1
      obtain ⟨h1, h4⟩ := and2 h1
      obtain ⟨h1, h5⟩ := and2 h1
      obtain ⟨h1, h6⟩ := and2 h1
      obtain ⟨h1, h7⟩ := and2 h1
      have e6 := of_decide_eq_true h6
      have e5 := of_decide_eq_true h5
      subst e5 e6
      have hx := of_decide_eq_true h7
      obtain ⟨g1, g2⟩ := gl_of k h4
      have hm : X.mg x = none := by rw [hx]; exact k.fc.bi _ (by decide +kernel)
      have r := s_maxDef (G := G) (pos := pos) (kp := kp) (cp := cp) (k := j) (p := p) k.K k.calm k.hu hx g1 hm g2 (okE m a X sc k h2) h3
      cases f <;> first | exact nb h1 | exact r
  | .lenOwn i, e, X, sc, k, h => by
    cases e with
    | Call g args kws pos =>
      match g, args, kws, h with
      | .Name x p, [.Name y p2], [], h =>
        obtain ⟨h1, h2⟩ := and2 h
        obtain ⟨h1, h3⟩ := and2 h1
        exact s_lenOwn k (of_decide_eq_true h1) h3 h2
    | _ => exact nb h
  | .idxOwn i b, e, X, sc, k, h => by
    cases e with
    | Subscript a z pos =>
      cases a with
      | Name y p =>
        obtain ⟨h1, h2⟩ := and2 h
        obtain ⟨h1, h3⟩ := and2 h1
        exact s_idxOwn k h3 (okE b z X sc k h2) h1
      | _ => exact nb h
    | _ => exact nb h
  | .truOwn i, e, X, sc, k, h => pe_no
  | .dict0, e, X, sc, k, h => by
    cases e <;> first | exact nb h | skip
    rename_i ks vs pos
    cases ks <;> cases vs <;> first | exact nb h | skip
    exact s_dict0
  | .gdict g a, e, X, sc, k, h => by
    cases e with
    | Subscript x y pos =>
      cases x with
      | Name x p =>
        obtain ⟨h1, h2⟩ := and2 h
        obtain ⟨h1, h3⟩ := and2 h1
        obtain ⟨h1, h4⟩ := and2 h1
        exact s_gdict k (of_decide_eq_true h1) h4 (okE a y X sc k h2) h3
      | _ => exact nb h
    | _ => exact nb h
  | .meth _ _ _ _, e, X, sc, k, h => nb h
  | .make _ _, e, X, sc, k, h => nb h
  | .record _ _ _, e, X, sc, k, h => nb h
  | .fld _ _ _, e, X, sc, k, h => nb h
  | .app _ _, e, X, sc, k, h => nb h
  | .pop _, e, X, sc, k, h => nb h
theorem okT : ∀ (m : E) (e : Expr) (X : Cx) (sc : Scope), Kx T G n call X sc → mE T X.N sc m e = true → PT X e (tTf G (evT T.prg call mk m))
  | .cmp op a b, e, X, sc, k, h => by
    cases e with
    | Compare l os rs pos =>
      match os, rs, h with
      | [o], [r], h =>
        obtain ⟨h1, h2⟩ := and2 h
        obtain ⟨h1, h3⟩ := and2 h1
        obtain ⟨h1, h4⟩ := and2 h1
        exact t_cmp k.hu k.K h1 (okE a l X sc k h4) (okE b r X sc k h3) (unmarked h2)
      | [], _, h => exact nb h
      | [_], [], h => exact nb h
      | [_], _ :: _ :: _, h => exact nb h
      | _ :: _ :: _, [], h => exact nb h
      | _ :: _ :: _, _ :: _, h => exact nb h
    | _ => exact nb h
  | .chain op op' a b c, e, X, sc, k, h => by
    cases e with
    | Compare l os rs pos =>
      match os, rs, h with
      | [o, o'], [m, r], h =>
        obtain ⟨h1, h2⟩ := and2 h
        obtain ⟨h1, h3⟩ := and2 h1
        obtain ⟨h1, h4⟩ := and2 h1
        obtain ⟨h1, h5⟩ := and2 h1
        obtain ⟨h1, h6⟩ := and2 h1
        exact t_chain k.hu k.K h1 h6 (okE a l X sc k h5) (okE b m X sc k h4) (okE c r X sc k h3) (unmarked2 h2)
      | [], _, h => exact nb h
      | [_], _, h => exact nb h
      | _ :: _ :: _ :: _, _, h => exact nb h
      | [_, _], [], h => exact nb h
      | [_, _], [_], h => exact nb h
      | [_, _], _ :: _ :: _ :: _, h => exact nb h
    | _ => exact nb h
  | .and es, e, X, sc, k, h => by
    cases e with
    | BoolOp o vs pos =>
      cases o with
      | And => exact (okAndT es vs pos X sc k h).pt
      | Or => exact nb h
    | _ => exact nb h
  | .or es, e, X, sc, k, h => by
    cases e with
    | BoolOp o vs pos =>
      cases o with
      | Or => exact (okOrT es vs pos X sc k h).pt
      | And => exact nb h
    | _ => exact nb h
  | .not a, e, X, sc, k, h => by
    cases e with
    | UnaryOp o x pos =>
      cases o with
      | Not => exact t_not (okT a x X sc k h)
      | _ => exact nb h
    | _ => exact nb h
  | .truOwn i, e, X, sc, k, h => by
    cases e with
    | Name y pos => exact t_truOwn k h
    | _ => exact nb h
  | .var i, e, X, sc, k, h => by
    have z := okE (.var i) e X sc k h
    cases e with
    | Name x pos => exact t_val k.K z (tru_of rfl _)
    | _ => exact nb h
  | .call f es, e, X, sc, k, h => by
    have z := okE (.call f es) e X sc k h
    cases e with
    | Call g args kws pos => exact t_val k.K z (tru_of rfl _)
    | _ => exact nb h
  | .callK f es ks, e, X, sc, k, h => by
    have z := okE (.callK f es ks) e X sc k h
    cases e with
    | Call g args kws pos => exact t_val k.K z (tru_of rfl _)
    | _ => exact nb h
  | .idx a b, e, X, sc, k, h => by
    have z := okE (.idx a b) e X sc k h
    cases e with
    | Subscript x y pos => exact t_val k.K z (tru_of rfl _)
    | _ => exact nb h
  | .isi f a, e, X, sc, k, h => by
    have z := okE (.isi f a) e X sc k h
    cases e with
    | Call g args kws pos => exact t_val k.K z (tru_of rfl _)
    | _ => exact nb h
  | .bi f es, e, X, sc, k, h => by
    have z := okE (.bi f es) e X sc k h
    cases e with
    | Call g args kws pos => exact t_val k.K z (tru_of rfl _)
    | _ => exact nb h
  | .bl b, e, X, sc, k, h => by
    have z := okE (.bl b) e X sc k h
    cases e with
    | Constant c j pos => exact t_val k.K z (tru_of rfl _)
    | _ => exact nb h
  | .int _, _, _, _, _, _ => pt_no
  | .str _, _, _, _, _, _ => pt_no
  | .non, _, _, _, _, _ => pt_no
  | .glob _, _, _, _, _, _ => pt_no
  | .absent, _, _, _, _, _ => pt_no
  | .bin _ _ _, _, _, _, _, _ => pt_no
  | .neg _, _, _, _, _, _ => pt_no
  | .ite _ _ _, _, _, _, _, _ => pt_no
  | .slice _ _ _, _, _, _, _, _ => pt_no
  | .rev _, _, _, _, _, _ => pt_no
  | .tup _, _, _, _, _, _ => pt_no
  | .frz _, _, _, _, _, _ => pt_no
  | .shr _, _, _, _, _, _ => pt_no
  | .lenOwn _, _, _, _, _, _ => pt_no
  | .idxOwn _ _, _, _, _, _, _ => pt_no
  | .gdict _ _, _, _, _, _, _ => pt_no
  | .dict0, _, _, _, _, _ => pt_no
  | .meth _ _ _ _, e, X, sc, k, h => nb h
  | .make _ _, e, X, sc, k, h => nb h
  | .record _ _ _, e, X, sc, k, h => nb h
  | .fld _ _ _, e, X, sc, k, h => nb h
  | .app _ _, e, X, sc, k, h => nb h
  | .pop _, e, X, sc, k, h => nb h
theorem okEs : ∀ (ms : Es) (es : List Expr) (X : Cx) (sc : Scope), Kx T G n call X sc → mEs T X.N sc ms es = true → PA X es (tAf G (evEs T.prg call mk ms)) ∧ es.all notStar = true
  | .nil, es, X, sc, k, h => by
    cases es with
    | nil => exact ⟨a_nil, rfl⟩
    | cons _ _ => exact nb h
  | .cons m ms, es, X, sc, k, h => by
    cases es with
    | nil => exact nb h
    | cons e es =>
      obtain ⟨h1, h2⟩ := and2 h
      obtain ⟨h1, h3⟩ := and2 h1
      obtain ⟨a1, a2⟩ := okEs ms es X sc k h2
      exact ⟨a_cons h1 (okE m e X sc k h3) a1, by rw [List.all_cons, h1, a2] <;> rfl⟩
theorem okKs : ∀ (ms : Es) (es : List Keyword) (X : Cx) (sc : Scope), Kx T G n call X sc → mKs T X.N sc ms es = true → PK X es (tAf G (evEs T.prg call mk ms))
  | .nil, es, X, sc, k, h => by
    cases es with
    | nil => exact k_nil
    | cons _ _ => exact nb h
  | .cons m ms, es, X, sc, k, h => by
    cases es with
    | nil => exact nb h
    | cons e es =>
      obtain ⟨h1, h2⟩ := and2 h
      obtain ⟨nm, v, p⟩ := e
      exact k_cons (okE m v X sc k h1) (okKs ms es X sc k h2)
theorem okAnd : ∀ (ms : Es) (es : List Expr) (pos : Pos) (X : Cx) (sc : Scope), Kx T G n call X sc → mEs T X.N sc ms es = true → PE X (.BoolOp .And es pos) (tEf G (evAnd T.prg call mk ms))
  | .nil, es, pos, X, sc, k, h => pe_no
  | .cons m .nil, es, pos, X, sc, k, h => by
    match es, h with
    | [e], h =>
      obtain ⟨h1, h2⟩ := and2 h
      obtain ⟨h1, h3⟩ := and2 h1
      exact pe_one (okE m e X sc k h3)
    | _ :: _ :: _, h => exact nb (and2 h).2
  | .cons m (.cons m' ms), es, pos, X, sc, k, h => by
    match es, h with
    | e :: e' :: es, h =>
      obtain ⟨h1, h2⟩ := and2 h
      obtain ⟨h1, h3⟩ := and2 h1
      exact s_and (okE m e X sc k h3) (okAnd (.cons m' ms) (e' :: es) pos X sc k h2)
    | [_], h => exact nb (and2 h).2
theorem okOr : ∀ (ms : Es) (es : List Expr) (pos : Pos) (X : Cx) (sc : Scope), Kx T G n call X sc → mEs T X.N sc ms es = true → PE X (.BoolOp .Or es pos) (tEf G (evOr T.prg call mk ms))
  | .nil, es, pos, X, sc, k, h => pe_no
  | .cons m .nil, es, pos, X, sc, k, h => by
    match es, h with
    | [e], h =>
      obtain ⟨h1, h2⟩ := and2 h
      obtain ⟨h1, h3⟩ := and2 h1
      exact pe_one (okE m e X sc k h3)
    | _ :: _ :: _, h => exact nb (and2 h).2
  | .cons m (.cons m' ms), es, pos, X, sc, k, h => by
    match es, h with
    | e :: e' :: es, h =>
      obtain ⟨h1, h2⟩ := and2 h
      obtain ⟨h1, h3⟩ := and2 h1
      exact s_or (okE m e X sc k h3) (okOr (.cons m' ms) (e' :: es) pos X sc k h2)
    | [_], h => exact nb (and2 h).2
theorem okAndT : ∀ (ms : Es) (es : List Expr) (pos : Pos) (X : Cx) (sc : Scope), Kx T G n call X sc → mEs T X.N sc ms es = true → PW X (.BoolOp .And es pos) (tTf G (evAndT T.prg call mk ms))
  | .nil, es, pos, X, sc, k, h => pw_no
  | .cons m .nil, es, pos, X, sc, k, h => by
    match es, h with
    | [e], h =>
      obtain ⟨h1, h2⟩ := and2 h
      obtain ⟨h1, h3⟩ := and2 h1
      exact pw_and1 (okT m e X sc k h3)
    | _ :: _ :: _, h => exact nb (and2 h).2
  | .cons m (.cons m' ms), es, pos, X, sc, k, h => by
    match es, h with
    | e :: e' :: es, h =>
      obtain ⟨h1, h2⟩ := and2 h
      obtain ⟨h1, h3⟩ := and2 h1
      exact w_and (okT m e X sc k h3) (okAndT (.cons m' ms) (e' :: es) pos X sc k h2)
    | [_], h => exact nb (and2 h).2
theorem okOrT : ∀ (ms : Es) (es : List Expr) (pos : Pos) (X : Cx) (sc : Scope), Kx T G n call X sc → mEs T X.N sc ms es = true → PW X (.BoolOp .Or es pos) (tTf G (evOrT T.prg call mk ms))
  | .nil, es, pos, X, sc, k, h => pw_no
  | .cons m .nil, es, pos, X, sc, k, h => by
    match es, h with
    | [e], h =>
      obtain ⟨h1, h2⟩ := and2 h
      obtain ⟨h1, h3⟩ := and2 h1
      exact pw_or1 (okT m e X sc k h3)
    | _ :: _ :: _, h => exact nb (and2 h).2
  | .cons m (.cons m' ms), es, pos, X, sc, k, h => by
    match es, h with
    | e :: e' :: es, h =>
      obtain ⟨h1, h2⟩ := and2 h
      obtain ⟨h1, h3⟩ := and2 h1
      exact w_or (okT m e X sc k h3) (okOrT (.cons m' ms) (e' :: es) pos X sc k h2)
    | [_], h => exact nb (and2 h).2
theorem okIfs : ∀ (ms : Es) (es : List Expr) (X : Cx) (sc : Scope), Kx T G n call X sc → mEs T X.N sc ms es = true → PTs X es (tTf G (evIfs T.prg call mk ms))
  | .nil, es, X, sc, k, h => by
    cases es with
    | nil =>
      refine pts_weak pts_nil fun σ H Q h => ?_
      obtain ⟨M, S, ρ, d, S', rl, en, h, kk⟩ := h
      cases h
      exact kk M H rl .refl
    | cons _ _ => exact nb h
  | .cons m .nil, es, X, sc, k, h => by
    match es, h with
    | [e], h =>
      obtain ⟨h1, h2⟩ := and2 h
      obtain ⟨h1, h3⟩ := and2 h1
      exact pts_one (okT m e X sc k h3)
    | _ :: _ :: _, h => exact nb (and2 h).2
  | .cons _ (.cons _ _), es, X, sc, k, h => pts_no
theorem okL : ∀ (l : Lx) (e : Expr) (X : Cx) (sc : Scope), Kx T G n call X sc → mL T X.N sc l e = true → LOk G X sc e (evL T.prg call mk l)
  | .disp es, e, X, sc, k, h => by
    cases e with
    | List xs pos =>
      have z := l_disp (pos := pos) (okEs es xs X sc k h).1
      exact ⟨_, z, fun _ _ _ _ q => q, fun i x py pos' hN hx hf hc => ps_set k.nd hN hx z (sw_false rfl _ _ _) hf⟩
    | _ => exact nb h
  | .comp tg one it ifs elt, e, X, sc, k, h => by
    match e, h with
    | .ListComp x [⟨t, i, fs, 0⟩] s pos, h =>
      obtain ⟨h1, h2⟩ := and2 h
      obtain ⟨h1, h3⟩ := and2 h1
      obtain ⟨h1, h4⟩ := and2 h1
      obtain ⟨h1, h5⟩ := and2 h1
      obtain ⟨h1, h6⟩ := and2 h1
      exact lok_comp k h1 h6 (okI it i one X sc t k h5 (fun h1 => tup_of (by rw [← h1]; exact h6))) h2 (fun X' k' hN => okIfs ifs fs X' _ k' (by rw [hN]; exact h4)) fun X' k' hN => okE elt x X' _ k' (by rw [hN]; exact h3)
theorem okI : ∀ (it : It) (i : Expr) (one : Bool) (X : Cx) (sc : Scope) (tg : Expr), Kx T G n call X sc → mI T X.N sc one it i = true → (one = false → ∃ es j p, tg = .Tuple es j p) → PIf X G tg i (evI T.prg call mk it)
  | .e m, i, one, X, sc, tg, k, h, ht => i_e k.K (okE m i X sc k h)
  | .range1 a, i, one, X, sc, tg, k, h, ht => by
    match i, h with
    | .Call (.Name x p) [q] [] pos, h =>
      obtain ⟨h1, h2⟩ := and2 h
      obtain ⟨h1, h3⟩ := and2 h1
      obtain ⟨h1, h4⟩ := and2 h1
      have h1 := of_decide_eq_true h1
      subst h1
      exact i_range1 (gl_of k h4).1 (k.fc.bi _ (by decide +kernel)) (okE a q X sc k h2) h3
  | .range2 a b, i, one, X, sc, tg, k, h, ht => by
    match i, h with
    | .Call (.Name x p) [q, r] [] pos, h =>
      obtain ⟨h1, h2⟩ := and2 h
      obtain ⟨h1, h3⟩ := and2 h1
      obtain ⟨h1, h4⟩ := and2 h1
      obtain ⟨h1, h5⟩ := and2 h1
      obtain ⟨h1, h6⟩ := and2 h1
      have h1 := of_decide_eq_true h1
      subst h1
      exact i_range2 (gl_of k h6).1 (k.fc.bi _ (by decide +kernel)) (okE a q X sc k h3) (okE b r X sc k h2) h5 h4
  | .rev a, i, one, X, sc, tg, k, h, ht => by
    match i, h with
    | .Call (.Name x p) [q] [] pos, h =>
      obtain ⟨h1, h2⟩ := and2 h
      obtain ⟨h1, h3⟩ := and2 h1
      obtain ⟨h1, h4⟩ := and2 h1
      have h1 := of_decide_eq_true h1
      subst h1
      exact i_rev k.K (gl_of k h4).1 (k.fc.bi _ (by decide +kernel)) (okE a q X sc k h2) h3
  | .zip a b, i, one, X, sc, tg, k, h, ht => by
    match i, h with
    | .Call (.Name x p) [q, r] [] pos, h =>
      obtain ⟨h1, h2⟩ := and2 h
      obtain ⟨h1, h3⟩ := and2 h1
      obtain ⟨h1, h4⟩ := and2 h1
      obtain ⟨h1, h5⟩ := and2 h1
      obtain ⟨h1, h6⟩ := and2 h1
      obtain ⟨h1, h7⟩ := and2 h1
      have h7 := of_decide_eq_true h7
      subst h7
      obtain ⟨es, j, pp, e⟩ := ht (by simpa using h1)
      subst e
      exact i_zip k.K (gl_of k h6).1 (k.fc.bi _ (by decide +kernel)) (okE a q X sc k h3) (okE b r X sc k h2) h5 h4
end
end
end HN

/-! Statements and defs: what passes the look does what HN says. -/
namespace HN
open PySem L2

def storeB (N : List Str) (sc : Scope) (i : Nat) (x : Str) : Bool := decide (N[i]? = some x) && locB sc x && nmB x
/-- a list that is stored in a name: a display, or a comprehension on the name's line -/
def onLine (sc : Scope) (x : Str) (py : Pos) : Expr → Bool
  | .ListComp _ _ s p => (lclB sc x && (py.line == p.line) && !(s.names.any fun (n, k) => n == x && (k == .local || k == .cell))) || decide (sc.names.lookup x = some .cell)
  | e => notComp e
/-- a, b = x, y with two plain names on one line -/
def parC (N : List Str) (sc : Scope) (i j : Nat) (x y : Str) (px py : Pos) (a b : Expr) (k : List Expr → Bool) : Bool :=
  decide (N[i]? = some x) && (decide (N[j]? = some y) && (decide (i ≠ j) && (lclB sc x && (lclB sc y && ((py.line == px.line) && (notStar a && (notStar b && (!([a, b].all (foldedForSure 8)) && (!([a, b].all (constantsAlone 8)) && k [a, b])))))))))
def parE (N : List Str) (sc : Scope) (is : List Nat) (ts vs : List Expr) (k : List Expr → Bool) : Bool := match is, ts, vs with
  | [i, j], [.Name x px, .Name y py], [a, b] => parC N sc i j x y px py a b k
  | _, _, _ => false
def parB (N : List Str) (sc : Scope) (is : List Nat) : Stmt → (List Expr → Bool) → Bool
  | .Assign [.Tuple ts _ _] (.Tuple vs _ _) _, k => parE N sc is ts vs k
  | _, _ => false
theorem parB_inv {N : List Str} {sc : Scope} {is : List Nat} {s : Stmt} {k : List Expr → Bool} (h : parB N sc is s k = true) : ∃ i j x y px py kt pt a b k2 pt2 pos, is = [i, j] ∧ s = .Assign [.Tuple [.Name x px, .Name y py] kt pt] (.Tuple [a, b] k2 pt2) pos ∧ parC N sc i j x y px py a b k = true := by
  unfold parB at h
  split at h
  · unfold parE at h
    split at h
    · exact ⟨_, _, _, _, _, _, _, _, _, _, _, _, _, rfl, rfl, h⟩
    · exact nb h
  · exact nb h
mutual
def mS (T : Tb) (N : List Str) (sc : Scope) : St → Stmt → Bool
  | .expr m, s => (match s with | .Expr e _ => notComp e && mE T N sc m e | _ => false)
  | .set i m, s => (match s with | .Assign [.Name x py] e _ => storeB N sc i x && (match m with
      | .frz l => mL T N sc l e && onLine sc x py e
      | m => notComp e && mE T N sc m e) | _ => false)
  | .setOwn i l, s => (match s with | .Assign [.Name x py] e _ => storeB N sc i x && mL T N sc l e && onLine sc x py e | _ => false)
  | .setT is m, s => (match s with | .Assign [.Tuple ts k p] e _ => tgOk N (locB sc) false is (.Tuple ts k p) && notComp e && (notTuple e || celT sc (.Tuple ts k p)) && mE T N sc m e | _ => false)
  | .setL is m, s => (match s with | .Assign [.Tuple ts k p] e _ => tgOk N (locB sc) false is (.Tuple ts k p) && notComp e && notTuple e && mE T N sc m e | _ => false)
  | .par is es, s => parB N sc is s fun l => mEs T N sc es l
  | .aug i op m, s => (match s with | .AugAssign (.Name x _) o e _ => storeB N sc i x && bopB op o && mE T N sc m e | _ => false)
  | .appOwn v m, s => (match s with | .Expr (.Call (.Attribute (.Name x _) a ap) [e] [] cp) _ => decide (a = ("append" : Str)) && varB N sc v x && notStar e && (ap.endLine == cp.line) && mE T N sc m e | _ => false)
  | .extOwn v m, s => (match s with | .Expr (.Call (.Attribute (.Name x _) a ap) [e] [] cp) _ => decide (a = ("extend" : Str)) && varB N sc v x && notStar e && (ap.endLine == cp.line) && mE T N sc m e | _ => false)
  | .popOwn i v, s => (match s with | .Assign [.Name y _] (.Call (.Attribute (.Name x _) a ap) [] [] cp) _ => decide (a = ("pop" : Str)) && varB N sc v x && storeB N sc i y && (ap.endLine == cp.line) | _ => false)
  | .setIx o i m, s => (match s with | .Assign [.Subscript a b _] e _ => notSlice b && notComp e && notTuple e && mE T N sc m e && mE T N sc o a && mE T N sc i b | _ => false)
  | .setIxOwn v i m, s => (match s with | .Assign [.Subscript (.Name x _) b _] e _ => notSlice b && notComp e && notTuple e && varB N sc v x && mE T N sc m e && mE T N sc i b | _ => false)
  | .ite c a b, s => (match s with | .If t x y _ => mE T N sc c t && mSs T N sc a x && mSs T N sc b y | _ => false)
  | .forS tg one it body, s => (match s with | .For t i b [] _ => tgOk N (locB sc) one tg t && notSet i && mI T N sc one it i && mSs T N sc body b | _ => false)
  | .while c body, s => (match s with | .While t b [] _ => mE T N sc c t && mSs T N sc body b | _ => false)
  | .ret m, s => (match s with | .Return (some e) _ => mE T N sc m e | _ => false)
  | .retN, s => (match s with | .Return none _ => true | _ => false)
  | .dset, _ => true
  | .pass, s => (match s with | .Pass _ => true | .Expr (.Constant (.str _) _ _) _ => true | _ => false)
  | _, _ => false
def mSs (T : Tb) (N : List Str) (sc : Scope) : Ss → List Stmt → Bool
  | .nil, ss => ss.isEmpty
  | .cons (.freeze _) ms, ss => mSs T N sc ms ss
  | .cons (.share _) ms, ss => mSs T N sc ms ss
  | .cons m ms, ss => (match ss with | s :: r => mS T N sc m s && mSs T N sc ms r | [] => false)
end
theorem star_is (a : Expr) : (match a with | .Starred _ _ => true | _ => false) = !notStar a := by
  cases a <;> rfl
theorem swap2 {x y : Str} {px py pt pt2 : Pos} {kt : _} {k2 : _} {a b : Expr} {env : PySem.Env} (hk : env.blockKind = .function) (hx : env.kindOf x = some .local) (hy : env.kindOf y = some .local) (hl : (py.line == px.line) = true) (hne : x ≠ y)
    (ha : notStar a = true) (hb : notStar b = true) (hf : ([a, b].all (foldedForSure 8)) = false) (hc : ([a, b].all (constantsAlone 8)) = false) :
    swappedStores [.Tuple [.Name x px, .Name y py] kt pt] (.Tuple [a, b] k2 pt2) env = pure (some [x, y]) := by
  have na := star_is a
  rw [ha] at na
  have nb' := star_is b
  rw [hb] at nb'
  have hxy : (y == x) = false := by rw [beq_eq_false_iff_ne]; exact Ne.symm hne
  have e2 : ([x, y].eraseDups).length = 2 := by simp [List.eraseDups, List.eraseDupsBy, List.eraseDupsBy.loop, hxy]
  have hl' : py.line = px.line := eq_of_beq hl
  unfold swappedStores
  have hf' : ¬ (foldedForSure 8 a = true ∧ foldedForSure 8 b = true) := by
    rw [← Bool.and_eq_true]
    simpa using hf
  have hc' : ¬ (constantsAlone 8 a = true ∧ constantsAlone 8 b = true) := by
    rw [← Bool.and_eq_true]
    simpa using hc
  simp [hk, hx, hy, hl', na, nb', e2, List.filterMap, Expr.pos, hf', hc']
  intro h
  rcases h with h | h
  · exact absurd (h.symm.trans na) (by decide)
  · exact absurd (h.symm.trans nb') (by decide)
/-- a, b = x, y with two names of the def -/
theorem p_par2 {X : Cx} {G : Gx} {i j : Nat} {x y : Str} {a b : Expr} {fs : Env → Store → Option (List D × Store)} {px py pt pt2 pos : Pos} {kt k2 : Nat} (hcalm : X.calm = true) (hN : X.N.Nodup) (hi : X.N[i]? = some x) (hj : X.N[j]? = some y) (hij : i ≠ j)
    (hx : X.env.scope.names.lookup x = some .local) (hy : X.env.scope.names.lookup y = some .local) (ha : PA X [a, b] (tAf G fs)) (hk : X.env.blockKind = .function) (hl : (py.line == px.line) = true)
    (na : notStar a = true) (nb : notStar b = true) (hf : ([a, b].all (foldedForSure 8)) = false) (hc : ([a, b].all (constantsAlone 8)) = false) :
    PS X (.Assign [.Tuple [.Name x px, .Name y py] kt pt] (.Tuple [a, b] k2 pt2) pos) (tSf G fun ρ S => (fs ρ S).bind fun x => (putVs ρ [i, j] x.1).map fun ρ1 => .nx ρ1 x.2) := by
  have hne : x ≠ y := fun e => hij (by
    have h1 := (List.getElem?_eq_some_iff.mp hi).1
    exact (List.getElem?_inj h1 hN).mp (by rw [hi, hj, e]))
  refine ps_len (ps_par hcalm hN hi hj hij hx hy ha (swap2 hk hx hy hl hne na nb hf hc)) fun D σ H hs h => ?_
  obtain ⟨M, S, ρ, r, rl, en, h, k⟩ := h
  obtain ⟨⟨ds, S1⟩, hd, h⟩ := Option.bind_eq_some_iff.mp h
  obtain ⟨ρ1, hρ, h⟩ := Option.map_eq_some_iff.mp h
  subst h
  refine tAf.mk rl en hd fun vs M1 H1 r1 q1 p1 => ?_
  have e1 := en.ext q1
  match ds, hρ, p1 with
  | [d1, d2], hρ, p1 =>
    obtain ⟨v, _, rfl, pv, w, _, rfl, pw, rfl⟩ := p1
    refine ⟨v, w, rfl, ?_⟩
    have hρ := Option.some.inj (show some (putV (putV ρ i d1) j d2) = some ρ1 from hρ)
    subst hρ
    have li : i < ρ.length := by rw [e1.len, hs]; exact len_of hi
    have lj : j < (putV ρ i d1).length := by rw [show (putV ρ i d1).length = ρ.length from List.length_set, e1.len, hs]; exact len_of hj
    have e2 := e1.putV li pv
    have e3 := e2.putV lj pw
    exact k _ M1 H1 r1 (q1.toS.less fun p z => own_put (own_put z e2.len) e1.len) e3
  | [], hρ, _ => exact nn hρ
  | [_], hρ, _ => exact nn hρ
  | _ :: _ :: _ :: _, hρ, _ => exact nn hρ
/-- a context of statements -/
structure Kb (T : Tb) (G : Gx) (n : Nat) (call : CallF) (X : Cx) (sc : Scope) : Prop extends Kx T G n call X sc where
  fn : ∀ x, X.fn x = true
  own : PassesOwn (model X.prog X.w) X.A X.env X.xe
section
variable {T : Tb} {G : Gx} {n : Nat} {call mk : CallF} {X : Cx} {sc : Scope}
theorem loc_of (k : Kx T G n call X sc) {x : Str} (h : locB sc x = true) : L2.Loc X.env.scope x := by
  rw [k.sc]
  unfold locB at h
  unfold L2.Loc
  split at h <;> first | exact nb h | (rename_i e; rw [e]; simp)
theorem store_of (k : Kx T G n call X sc) {i : Nat} {x : Str} (h : storeB X.N sc i x = true) : X.N[i]? = some x ∧ L2.Loc X.env.scope x := by
  obtain ⟨h1, h2⟩ := and2 h
  obtain ⟨h1, h3⟩ := and2 h1
  exact ⟨of_decide_eq_true h1, loc_of k h3⟩
theorem line_of (k : Kx T G n call X sc) {x : Str} {py : Pos} {e : Expr} (h : onLine sc x py e = true) :
    notComp e = true ∨ (∃ el gs s p, e = .ListComp el gs s p ∧ ((X.env.scope.names.lookup x = some .local ∧ (py.line == p.line) = true ∧ (s.names.any fun (n, k) => n == x && (k == .local || k == .cell)) = false) ∨ X.env.scope.names.lookup x = some .cell)) := by
  cases e with
  | ListComp el gs s p =>
    refine .inr ⟨el, gs, s, p, rfl, ?_⟩
    rw [k.sc]
    have h : ((lclB sc x && (py.line == p.line) && !(s.names.any fun (n, k) => n == x && (k == .local || k == .cell))) || decide (sc.names.lookup x = some .cell)) = true := h
    rw [Bool.or_eq_true] at h
    rcases h with h | h
    · obtain ⟨h1, h2⟩ := and2 h
      obtain ⟨h1, h3⟩ := and2 h1
      refine .inl ⟨?_, h3, by simpa using h2⟩
      unfold lclB at h1
      split at h1
      · rename_i e; exact e
      · exact nb h1
    · exact .inr (of_decide_eq_true h)
  | SetComp _ _ _ _ => exact nb h
  | DictComp _ _ _ _ _ => exact nb h
  | _ => exact .inl rfl
theorem frz_read {fl : Env → Store → Option (List D × Store)} {σ : L2.St} {H : Hp} {Q : VK} (h : tEf G (fun ρ S => (fl ρ S).map fun x => (.lst x.1, x.2)) σ H Q) : tLf G fl σ H Q := by
  obtain ⟨M, S, ρ, d, S', rl, e, h, k⟩ := h
  obtain ⟨x, hx, h⟩ := Option.map_eq_some_iff.mp h
  cases h
  refine ⟨M, S, ρ, x.1, x.2, rl, e, hx, fun p vs M1 H1 r1 x1 p1 hp hn f1 f2 => ?_⟩
  obtain ⟨r2, u2⟩ := rel_freeze r1 hp f1 f2
  refine k _ _ _ r2 ⟨x1.up.trans u2, fun q o h1 h2 h3 => ?_⟩ ⟨p, vs, rfl, upd_same, p1.up u2⟩
  obtain ⟨q1, q2, q3⟩ := x1.fgn q o h1 h2 h3
  refine ⟨q1, ?_, q3⟩
  show upd M1.F p _ q = none
  rw [upd_ne (fun z => by rw [z, hn] at h1; cases h1)]
  exact q2
/-- as setV_read, at the names' length -/
theorem setV_at {i : Nat} {te : TE} {fe : Env → Store → Option (D × Store)} {D : Ends} {σ : L2.St} {H : Hp} (ht : ∀ H Q, tEf G fe σ H Q → te σ H Q) (hi : i < X.N.length) (hs : σ.length = X.N.length)
    (h : tSf G (fun ρ S => (fe ρ S).map fun x => .nx (putV ρ i x.1) x.2) D σ H) : tAsg te (gName i) D σ H := by
  obtain ⟨M, S, ρ, r, rl, en, h, k⟩ := h
  obtain ⟨x, hx, h⟩ := Option.map_eq_some_iff.mp h
  subst h
  refine ht _ _ (tEf.mk rl en hx fun v M1 H1 r1 x1 p1 => ?_)
  have e1 := en.ext x1
  exact k (σ.set i (some v)) M1 H1 r1 (x1.toS.less fun p z => own_put z e1.len) (e1.putV (by rw [e1.len, hs]; exact hi) p1)
theorem setL_at {i : Nat} {te : TE} {fl : Env → Store → Option (List D × Store)} {D : Ends} {σ : L2.St} {H : Hp} (ht : ∀ H Q, tLf G fl σ H Q → te σ H Q) (hi : i < X.N.length) (hs : σ.length = X.N.length)
    (h : tSf G (fun ρ S => (fl ρ S).map fun x => .nx (ρ.set i (.own x.1)) x.2) D σ H) : tAsg te (gName i) D σ H := by
  refine setL_read (X := X) (te := fun σ' H' Q => σ' = σ → te σ H' Q) (fun σ' H' Q h' e => ?_) hi hs h rfl
  subst e
  exact ht _ _ h'
/-- a name is set to a list -/
theorem p_setFrz (k : Kb T G n call X sc) {i : Nat} {x : Str} {py pos : Pos} {e : Expr} {fl : Env → Store → Option (List D × Store)} (hs : storeB X.N sc i x = true) (hl : LOk G X sc e fl) (hn : onLine sc x py e = true) :
    PS X (.Assign [.Name x py] e pos) (tSf G fun ρ S => ((fl ρ S).map fun x => ((.lst x.1, x.2) : D × Store)).map fun x => .nx (putV ρ i x.1) x.2) := by
  obtain ⟨te, _, h2, h3⟩ := hl
  obtain ⟨s1, s2⟩ := store_of k.toKx hs
  exact ps_len (h3 i x py pos s1 s2 (.inl (k.fn x)) (line_of k.toKx hn)) fun D σ H hl h => setV_at (te := te) (fun H' Q h' => h2 _ _ _ hl (frz_read h')) (len_of s1) hl h
theorem p_setL (k : Kb T G n call X sc) {i : Nat} {x : Str} {py pos : Pos} {e : Expr} {fl : Env → Store → Option (List D × Store)} (hs : storeB X.N sc i x = true) (hl : LOk G X sc e fl) (hn : onLine sc x py e = true) :
    PS X (.Assign [.Name x py] e pos) (tSf G fun ρ S => (fl ρ S).map fun x => .nx (ρ.set i (.own x.1)) x.2) := by
  obtain ⟨te, _, h2, h3⟩ := hl
  obtain ⟨s1, s2⟩ := store_of k.toKx hs
  exact ps_len (h3 i x py pos s1 s2 (.inl (k.fn x)) (line_of k.toKx hn)) fun D σ H hl h => setL_at (te := te) (fun H' Q h' => h2 _ _ _ hl h') (len_of s1) hl h
theorem lstAt_some {S : Store} {d : D} {a : Nat} {l : List D} (h : lstAt S d = some (a, l)) : d = .ref a ∧ S[a]? = some (.lst l) := by
  cases d with
  | ref b =>
    have h : (match S[b]? with | some (SO.lst l) => some (b, l) | _ => none) = some (a, l) := h
    cases e : S[b]? with
    | none => rw [e] at h; exact nn h
    | some o =>
      rw [e] at h
      cases o with
      | lst l => cases h; exact ⟨rfl, e⟩
      | ins _ _ => exact nn h
  | _ => exact nn h
/-- o[i] = e -/
theorem p_setIx {o i e : Expr} {fo fi fe : Env → Store → Option (D × Store)} {pos pos' : Pos} (he : PE X e (tEf G fe)) (ho : PE X o (tEf G fo)) (hi : PE X i (tEf G fi)) (hc : notComp e = true) (ht : notTuple e = true)
    (ha : ∀ v, assign (.Subscript o i pos') X.env v = (do let ov ← holding [v] (eval o X.env); let iv ← holding [v, ov] (eval i X.env); standAt pos'; holding [v, ov, iv] (setItem ov iv v); release [v, ov, iv] [])) :
    PS X (.Assign [.Subscript o i pos'] e pos) (tSf G fun ρ S => (fe ρ S).bind fun x => (fo ρ x.2).bind fun y => (fi ρ y.2).bind fun z => match z.1 with
      | .int k => (lstAt z.2 y.1).bind fun q => (ixN q.2.length k).map fun j => .nx ρ (z.2.set q.1 (.lst (q.2.set j x.1)))
      | _ => none) := by
  refine ps_weak (ps_asg he (pg_sub ho hi set_list ha) (sole_false hc _ _) (stores_none ht _) rfl) fun D σ H h => ?_
  obtain ⟨M, S, ρ, r, rl, en, h, k⟩ := h
  obtain ⟨x, hx, h⟩ := Option.bind_eq_some_iff.mp h
  obtain ⟨y, hy, h⟩ := Option.bind_eq_some_iff.mp h
  obtain ⟨z, hz, h⟩ := Option.bind_eq_some_iff.mp h
  obtain ⟨z1, z2⟩ := z
  cases z1 <;> first | exact nn h | skip
  rename_i j
  obtain ⟨q, hq, h⟩ := Option.bind_eq_some_iff.mp (show (lstAt z2 y.1).bind (fun q => (ixN q.2.length j).map fun j => Fl.nx ρ (z2.set q.1 (.lst (q.2.set j x.1)))) = some r from h)
  obtain ⟨t, ht, h⟩ := Option.map_eq_some_iff.mp h
  subst h
  refine tEf.mk rl en hx fun v M1 H1 r1 x1 p1 => ?_
  refine tEf.mk r1 (en.ext x1) hy fun w M2 H2 r2 x2 p2 => ?_
  refine tEf.mk r2 ((en.ext x1).ext x2) hz fun u M3 H3 r3 x3 p3 => ?_
  have e3 := ((en.ext x1).ext x2).ext x3
  obtain ⟨q1, q2⟩ := q
  obtain ⟨y1, y2⟩ := y
  obtain ⟨e0, hl⟩ := lstAt_some (show lstAt z2 y1 = some (q1, q2) from hq)
  subst e0
  obtain ⟨vs, g1, g2⟩ := (r3.obj _ _ hl).1
  have pa := p2.up x3.up
  obtain ⟨_, pa⟩ := pa
  have pv := (p1.up x2.up).up x3.up
  have hlen := g2.length
  obtain ⟨r4, x4⟩ := rel_set (o := .lst (q2.set t x.1)) (u := .lst (vs.set t v)) r3 (List.getElem?_eq_some_iff.mp hl).1 ⟨_, rfl, g2.set t pv⟩
  refine ⟨_, vs, j, t, pa, p3, g1, by rw [← hlen]; exact ht, ?_⟩
  exact k σ M3 _ r4 (((x1.trans x2).trans x3).trans x4).toS (e3.ext x4)
/-- v[i] = e, v a name's own list -/
theorem p_setIxOwn {v : Nat} {x : Str} {px : Pos} {i e : Expr} {fi fe : Env → Store → Option (D × Store)} {pos pos' : Pos} (hN : X.N[v]? = some x) (hv : Vis X.env.scope x) (hd : (x == ("__debug__" : Str)) = false) (hcd : (x == ("__classdict__" : Str)) = false) (he : PE X e (tEf G fe)) (hi : PE X i (tEf G fi)) (hc : notComp e = true) (ht : notTuple e = true)
    (ha : ∀ w, assign (.Subscript (.Name x px) i pos') X.env w = (do let ov ← holding [w] (eval (.Name x px) X.env); let iv ← holding [w, ov] (eval i X.env); standAt pos'; holding [w, ov, iv] (setItem ov iv w); release [w, ov, iv] [])) :
    PS X (.Assign [.Subscript (.Name x px) i pos'] e pos) (tSf G fun ρ S => (fe ρ S).bind fun x => (fi ρ x.2).bind fun z => (getO ρ v).bind fun l => match z.1 with
      | .int k => (ixN l.length k).map fun j => .nx (ρ.set v (.own (l.set j x.1))) z.2
      | _ => none) := by
  refine ps_weak (ps_asg he (pg_sub (pe_var hN hv hd hcd) hi set_list ha) (sole_false hc _ _) (stores_none ht _) rfl) fun D σ H h => ?_
  obtain ⟨M, S, ρ, r, rl, en, h, k⟩ := h
  obtain ⟨x, hx, h⟩ := Option.bind_eq_some_iff.mp h
  obtain ⟨z, hz, h⟩ := Option.bind_eq_some_iff.mp h
  obtain ⟨l, hl, h⟩ := Option.bind_eq_some_iff.mp h
  obtain ⟨z1, z2⟩ := z
  cases z1 with
  | int j =>
    obtain ⟨t, ht, h⟩ := Option.map_eq_some_iff.mp (show (ixN l.length j).map (fun j => Fl.nx (ρ.set v (.own (l.set j x.1))) z2) = some r from h)
    subst h
    obtain ⟨h0, p, vs, h1, h2, h3, h4, h5⟩ := en.getO hl
    refine tEf.mk rl en hx fun w M1 H1 r1 x1 p1 => ?_
    have e1 := en.ext x1
    refine ⟨.ref p, h1, tEf.mk r1 e1 hz fun u M2 H2 r2 x2 p2 => ?_⟩
    have e2 := e1.ext x2
    obtain ⟨q1, q2, q3⟩ := (x1.trans x2).fgn p _ h2 h4 h5
    have hlen := h3.length
    have pp := h3.up (x1.trans x2).up
    obtain ⟨a1, a2, a3⟩ := own_touch (l' := l.set t x.1) (vs' := vs.set t w) r2 e2 h0 h1 q2 q3 (pp.set t (p1.up x2.up))
    refine ⟨p, vs, j, t, rfl, p2, q1, by rw [← hlen]; exact ht, ?_⟩
    exact k σ M2 _ a1 ((x1.trans x2).toS.trans a2) a3
  | _ => exact nn h
theorem locB_fn (k : Kb T G n call X sc) : ∀ x, locB sc x = true → L2.Loc X.env.scope x ∧ (X.fn x = true ∨ X.env.scope.names.lookup x = some .local) := fun x h => ⟨loc_of k.toKx h, .inl (k.fn x)⟩
theorem name_of {N : List Str} {nm : Str → Bool} {is : List Nat} {t : Expr} (h : tgOk N nm true is t = true) : ∃ x p, t = .Name x p := by
  cases t with
  | Name x p => exact ⟨x, p, rfl⟩
  | _ =>
    exfalso
    unfold tgOk at h
    split at h <;> simp_all
theorem tgt1 {N : List Str} {nm : Str → Bool} {one : Bool} {is : List Nat} {t : Expr} (h : tgOk N nm one is t = true) (env : PySem.Env) : (assignEach [t] env).map (·.2) = [assign t env] := by
  cases one with
  | true =>
    obtain ⟨x, p, e⟩ := name_of h
    subst e
    rfl
  | false =>
    obtain ⟨es, j, p, e⟩ := tup_of h
    subst e
    rfl
mutual
theorem okS : ∀ (m : St) (s : Stmt) (X : Cx) (sc : Scope), Kb T G n call X sc → mS T X.N sc m s = true → PS X s (tSf G (exS T.prg call mk m))
  | .expr m, s, X, sc, k, h => by
    cases s <;> first | exact nb h | skip
    obtain ⟨h1, h2⟩ := and2 h
    exact p_expr (okE m _ X sc k.toKx h2) h1
  | .set i m, s, X, sc, k, h => by
    cases s <;> first | exact nb h | skip
    rename_i ts e pos
    cases ts <;> first | exact nb h | skip
    rename_i t r
    cases r <;> cases t <;> first | exact nb h | skip
    rename_i x py
    obtain ⟨h1, h2⟩ := and2 h
    obtain ⟨s1, s2⟩ := store_of k.toKx h1
    have gen : (notComp e && mE T X.N sc m e) = true → PS X (.Assign [.Name x py] e pos) (tSf G (exS T.prg call mk (.set i m))) := fun h => by
      obtain ⟨a1, a2⟩ := and2 h
      exact p_set (ps_set k.nd s1 s2 (okE m _ X sc k.toKx a2) (sw_false a1 _ _ _) (.inl (k.fn x))) s1 fun _ _ _ z => z
    cases m with
    | frz l =>
      obtain ⟨a1, a2⟩ := and2 h2
      exact p_setFrz k h1 (okL l e X sc k.toKx a1) a2
    | _ => exact gen h2
  | .setOwn i l, s, X, sc, k, h => by
    cases s <;> first | exact nb h | skip
    rename_i ts e pos
    cases ts <;> first | exact nb h | skip
    rename_i t r
    cases r <;> cases t <;> first | exact nb h | skip
    obtain ⟨h1, h3⟩ := and2 h
    obtain ⟨h1, h2⟩ := and2 h1
    exact p_setL k h1 (okL l e X sc k.toKx h2) h3
  | .setT is m, s, X, sc, k, h => by
    cases s <;> first | exact nb h | skip
    rename_i ts e pos
    cases ts <;> first | exact nb h | skip
    rename_i t r
    cases r <;> cases t <;> first | exact nb h | skip
    obtain ⟨h1, h4⟩ := and2 h
    obtain ⟨h1, h3⟩ := and2 h1
    obtain ⟨h1, h2⟩ := and2 h1
    obtain ⟨g1, g2⟩ := pg_of k.calm k.nd (locB_fn k) h1
    refine p_setT k.K (okE m _ X sc k.toKx h4) g1 g2 h2 ?_ rfl
    rw [k.sc]
    rcases (Bool.or_eq_true _ _).mp h3 with q | q
    · exact .inl q
    · exact .inr q
  | .setL is m, s, X, sc, k, h => by
    cases s <;> first | exact nb h | skip
    rename_i ts e pos
    cases ts <;> first | exact nb h | skip
    rename_i t r
    cases r <;> cases t <;> first | exact nb h | skip
    obtain ⟨h1, h4⟩ := and2 h
    obtain ⟨h1, h3⟩ := and2 h1
    obtain ⟨h1, h2⟩ := and2 h1
    obtain ⟨g1, g2⟩ := pg_of k.calm k.nd (locB_fn k) h1
    exact p_setLs (okE m _ X sc k.toKx h4) (pg_ofL k.calm k.nd (locB_fn k) h1) k.K g2 h2 h3 rfl
  | .aug i op m, s, X, sc, k, h => by
    cases s <;> first | exact nb h | skip
    rename_i t o e pos
    cases t <;> first | exact nb h | skip
    rename_i x px
    obtain ⟨h1, h4⟩ := and2 h
    obtain ⟨h1, h3⟩ := and2 h1
    obtain ⟨s1, s2⟩ := store_of k.toKx h1
    exact p_aug k.nd s1 s2 (okE m _ X sc k.toKx h4) h3 (.inl (k.fn x))
  | .appOwn v m, s, X, sc, k, h => by
    cases s <;> first | exact nb h | skip
    rename_i e pos
    cases e <;> first | exact nb h | skip
    rename_i f es ks p
    cases f <;> first | exact nb h | skip
    rename_i o a ap
    cases o <;> first | exact nb h | skip
    rename_i x px
    cases es <;> first | exact nb h | skip
    rename_i e r
    cases r <;> cases ks <;> first | exact nb h | skip
    obtain ⟨h1, h5⟩ := and2 h
    obtain ⟨h1, h4⟩ := and2 h1
    obtain ⟨h1, h3⟩ := and2 h1
    obtain ⟨h1, h2⟩ := and2 h1
    have e := of_decide_eq_true h1
    subst e
    obtain ⟨v1, v2, v3, v4⟩ := var_of k.toKx h2
    exact p_appOwn v1 v2 v3 v4 (okE m _ X sc k.toKx h5) h3 h4
  | .extOwn v m, s, X, sc, k, h => by
    cases s <;> first | exact nb h | skip
    rename_i e pos
    cases e <;> first | exact nb h | skip
    rename_i f es ks p
    cases f <;> first | exact nb h | skip
    rename_i o a ap
    cases o <;> first | exact nb h | skip
    rename_i x px
    cases es <;> first | exact nb h | skip
    rename_i e r
    cases r <;> cases ks <;> first | exact nb h | skip
    obtain ⟨h1, h5⟩ := and2 h
    obtain ⟨h1, h4⟩ := and2 h1
    obtain ⟨h1, h3⟩ := and2 h1
    obtain ⟨h1, h2⟩ := and2 h1
    have e := of_decide_eq_true h1
    subst e
    obtain ⟨v1, v2, v3, v4⟩ := var_of k.toKx h2
    exact p_extOwn v1 v2 v3 v4 (okE m _ X sc k.toKx h5) h3 h4
  | .popOwn i v, s, X, sc, k, h => by
    cases s <;> first | exact nb h | skip
    rename_i ts e pos
    cases ts <;> first | exact nb h | skip
    rename_i t r
    cases r <;> cases t <;> cases e <;> first | exact nb h | skip
    rename_i y py f es ks p
    cases f <;> first | exact nb h | skip
    rename_i o a ap
    cases o <;> first | exact nb h | skip
    cases es <;> cases ks <;> first | exact nb h | skip
    obtain ⟨h1, h4⟩ := and2 h
    obtain ⟨h1, h3⟩ := and2 h1
    obtain ⟨h1, h2⟩ := and2 h1
    have e := of_decide_eq_true h1
    subst e
    obtain ⟨v1, v2, v3, v4⟩ := var_of k.toKx h2
    obtain ⟨s1, s2⟩ := store_of k.toKx h3
    exact p_popOwn k.nd s1 s2 (.inl (k.fn _)) v1 v2 v3 v4 h4
  | .setIx o i m, s, X, sc, k, h => by
    cases s <;> first | exact nb h | skip
    rename_i ts e pos
    cases ts <;> first | exact nb h | skip
    rename_i t r
    cases r <;> cases t <;> first | exact nb h | skip
    rename_i a b p
    obtain ⟨h1, h6⟩ := and2 h
    obtain ⟨h1, h5⟩ := and2 h1
    obtain ⟨h1, h4⟩ := and2 h1
    obtain ⟨h1, h3⟩ := and2 h1
    obtain ⟨h1, h2⟩ := and2 h1
    exact p_setIx (okE m _ X sc k.toKx h4) (okE o _ X sc k.toKx h5) (okE i _ X sc k.toKx h6) h2 h3 fun v => by
      cases b <;> first | rfl | exact nb h1
  | .setIxOwn v i m, s, X, sc, k, h => by
    cases s <;> first | exact nb h | skip
    rename_i ts e pos
    cases ts <;> first | exact nb h | skip
    rename_i t r
    cases t <;> first | exact nb h | skip
    rename_i a b p
    cases a <;> first | exact nb h | skip
    cases r <;> first | exact nb h | skip
    obtain ⟨h1, h6⟩ := and2 h
    obtain ⟨h1, h5⟩ := and2 h1
    obtain ⟨h1, h4⟩ := and2 h1
    obtain ⟨h1, h3⟩ := and2 h1
    obtain ⟨h1, h2⟩ := and2 h1
    obtain ⟨v1, v2, v3, v4⟩ := var_of k.toKx h4
    exact p_setIxOwn v1 v2 v3 v4 (okE m _ X sc k.toKx h5) (okE i _ X sc k.toKx h6) h2 h3 fun v => by
      cases b <;> first | rfl | exact nb h1
  | .ite c a b, s, X, sc, k, h => by
    cases s <;> first | exact nb h | skip
    obtain ⟨h1, h3⟩ := and2 h
    obtain ⟨h1, h2⟩ := and2 h1
    exact p_ite (okT c _ X sc k.toKx h1) (okSs a _ X sc k h2) (okSs b _ X sc k h3)
  | .forS tg one it body, s, X, sc, k, h => by
    cases s <;> first | exact nb h | skip
    rename_i t i b els pos
    cases els <;> first | exact nb h | skip
    obtain ⟨h1, h4⟩ := and2 h
    obtain ⟨h1, h3⟩ := and2 h1
    obtain ⟨h1, h2⟩ := and2 h1
    obtain ⟨g1, g2⟩ := pg_of k.calm k.nd (locB_fn k) h1
    exact p_for k.K k.own k.calm (okI it i one X sc t k.toKx h3 fun e => by subst e; exact tup_of h1) g1 g2 (okSs body _ X sc k h4) (nofold h2 _)
  | .while c body, s, X, sc, k, h => by
    cases s <;> first | exact nb h | skip
    rename_i t b els pos
    cases els <;> first | exact nb h | skip
    obtain ⟨h1, h2⟩ := and2 h
    exact p_while k.own (okT c _ X sc k.toKx h1) (okSs body _ X sc k h2)
  | .ret m, s, X, sc, k, h => by
    cases s <;> first | exact nb h | skip
    rename_i e p
    cases e <;> first | exact nb h | skip
    exact p_ret (okE m _ X sc k.toKx h)
  | .retN, s, X, sc, k, h => by
    cases s <;> first | exact nb h | skip
    rename_i e p
    cases e <;> first | exact nb h | skip
    exact p_retN
  | .dset, s, X, sc, k, h => ⟨fun pins st σ H D I z => by
    obtain ⟨_, _, _, _, _, _, z, _⟩ := z
    exact nn z⟩
  | .pass, s, X, sc, k, h => by
    cases s <;> first | exact nb h | skip
    · rename_i e p
      cases e <;> first | exact nb h | skip
      rename_i c j p
      cases c <;> first | exact nb h | skip
      exact p_doc
    · exact p_pass
  | .par is es, s, X, sc, k, h => by
    obtain ⟨i, j, x, y, px, py, kt, pt, a, b, k2, pt2, pos, rfl, rfl, h⟩ := parB_inv h
    obtain ⟨h1, h⟩ := and2 h
    obtain ⟨h2, h⟩ := and2 h
    obtain ⟨h3, h⟩ := and2 h
    obtain ⟨h4, h⟩ := and2 h
    obtain ⟨h5, h⟩ := and2 h
    obtain ⟨h6, h⟩ := and2 h
    obtain ⟨h7, h⟩ := and2 h
    obtain ⟨h8, h⟩ := and2 h
    obtain ⟨h9, h⟩ := and2 h
    obtain ⟨h10, h⟩ := and2 h
    have lcl : ∀ z, lclB sc z = true → X.env.scope.names.lookup z = some .local := fun z hz => by
      rw [k.sc]
      unfold lclB at hz
      split at hz
      · rename_i e; exact e
      · exact nb hz
    have hb : X.env.blockKind = .function := by
      unfold Env.blockKind
      rw [k.sc, k.kind]
      rfl
    exact p_par2 k.calm k.nd (of_decide_eq_true h1) (of_decide_eq_true h2) (of_decide_eq_true h3) (lcl x h4) (lcl y h5) (okEs es [a, b] X sc k.toKx h).1 hb h6 h7 h8 (by rw [Bool.not_eq_true'] at h9; exact h9) (by rw [Bool.not_eq_true'] at h10; exact h10)
  | .setF _ _ _ _, _, _, _, _, h => nb h
  | .augF _ _ _ _ _, _, _, _, _, h => nb h
  | .share _, _, _, _, _, h => nb h
  | .freeze _, _, _, _, _, h => nb h
theorem okSs : ∀ (ms : Ss) (ss : List Stmt) (X : Cx) (sc : Scope), Kb T G n call X sc → mSs T X.N sc ms ss = true → PSs X ss (tSf G (exSs T.prg call mk ms))
  | .nil, ss, X, sc, k, h => by
    cases ss with
    | nil => exact p_nil
    | cons _ _ => exact nb h
  | .cons m ms, ss, X, sc, k, h => by
    have gen : ∀ s r, (mS T X.N sc m s && mSs T X.N sc ms r) = true → PSs X (s :: r) (tSf G (exSs T.prg call mk (.cons m ms))) := fun s r h => by
      obtain ⟨h1, h2⟩ := and2 h
      exact p_cons (okS m s X sc k h1) (okSs ms r X sc k h2)
    cases m with
    | freeze i => exact p_ghost (okSs ms ss X sc k h) g_freeze
    | share i => exact p_ghost (okSs ms ss X sc k h) g_share
    | _ =>
      cases ss with
      | nil => exact nb h
      | cons s r => exact gen s r h
end
end
end HN

/-! A def of the text, and all defs together: each does what callF says, at every number of nested calls. -/
namespace HN
open PySem L2
section
variable {T : Tb} {G : Gx} {n : Nat} {call mk : CallF} {P : Program} {w : World} {mg : Str → Option Value} {base : Heap}
theorem env_start {M : Mp} {S : Store} {H : Hp} {N : List Str} {ds : List D} {vs : List V} (h : RpL G M S.length ds vs) (hl : vs.length ≤ N.length) : EnvR G M S H (L2.start N vs) (startD N.length ds) := by
  have e := h.length
  have nol : ∀ (i : Nat) (l : List D), (startD N.length ds)[i]? ≠ some (.own l) := fun i l q => by
    unfold startD at q
    by_cases hi : i < ds.length
    · rw [List.getElem?_append_left (by simpa using hi), List.getElem?_map] at q
      rw [List.getElem?_eq_getElem hi] at q
      cases q
    · rw [List.getElem?_append_right (by simpa using hi), List.getElem?_replicate] at q
      split at q <;> cases q
  refine ⟨by unfold L2.start startD; simp [e], fun i s q => ?_, fun i j l l' p q => absurd q (nol i l)⟩
  unfold startD at q
  by_cases hi : i < ds.length
  · rw [List.getElem?_append_left (by simpa using hi), List.getElem?_map, List.getElem?_eq_getElem hi] at q
    cases q
    obtain ⟨v, v1, v2⟩ := h.get (List.getElem?_eq_getElem hi)
    refine ⟨v, ?_, v2⟩
    unfold L2.start
    rw [List.getElem?_append_left (by simpa [← e] using hi), List.getElem?_map, v1] <;> rfl
  · rw [List.getElem?_append_right (by simpa using hi), List.getElem?_replicate] at q
    split at q
    · cases q; exact True.intro
    · cases q
theorem no_own {M : Mp} {N : List Str} {ds : List D} {σ : L2.St} {p : Addr} : ¬ Own σ (startD N.length ds) p := fun ⟨i, l, q, _⟩ => by
  unfold startD at q
  by_cases hi : i < ds.length
  · rw [List.getElem?_append_left (by simpa using hi), List.getElem?_map, List.getElem?_eq_getElem hi] at q
    cases q
  · rw [List.getElem?_append_right (by simpa using hi), List.getElem?_replicate] at q
    split at q <;> cases q
/-- behind a body -/
theorem gc_ok {M M' : Mp} {S S1 S' : Store} {H H' : Hp} {d d1 : D} {v : V} (r : Rel G M S H) (x : Ext M S H M' S1 H') (r' : Rel G M' S1 H') (p : Rp G M' S1.length d1 v) (h : gcD S (d1, S1) = (d, S')) : Rel G M' S' H' ∧ Ext M S H M' S' H' ∧ Rp G M' S'.length d v := by
  unfold gcD at h
  split at h
  · rename_i c
    cases h
    obtain ⟨a, b⟩ := rel_gc r x r' c.1
    exact ⟨a, b, p.down c.2⟩
  · cases h
    exact ⟨r', x, p⟩
theorem def_ok {x qual : Str} {dvs : List V} {kws : List (Str × V)} {st : Stmt} {f : Addr} {fd : FuncData} {N ps : List Str} {ms : Ss} (Fc : Facts T G P w mg base n call) (F : FunD G.K x qual (defArgs st) (defBody st) (defScope st) dvs kws f fd) (hs : C8.scC N ps (defScope st) = true) (hm : mSs T N (defScope st) ms (defBody st) = true) :
    FnG P w G.K mg base (n + 1) f fd ps (spF G ps.length (runD T.prg call mk ⟨ps.length, N.length, ms⟩)) := by
  have hS := C8.fnScope_by hs
  have hpl : ps.length ≤ N.length := by have := congrArg List.length hS.pre; rw [List.length_take] at this; omega
  refine g_def F hS (fun vs H Q E h => ?_) (fun cdv A outer s H vs Q E hr hgd h => ?_)
  · obtain ⟨M, S, ds, d, S', h, _⟩ := h
    exact h
  · obtain ⟨M, S, ds, d, S', hl, rl, rp, hrun, k⟩ := h
    unfold runD at hrun
    split at hrun
    case isFalse => cases hrun
    rename_i hl2
    obtain ⟨r, hx, hg⟩ := Option.map_eq_some_iff.mp hrun
    have kb : Kb T G n call (cxOf CX0 P w G.K mg base N qual (defScope st) f cdv A outer s H E).nox (defScope st) :=
      { K := rfl, calm := rfl, nd := hS.nd, kind := hS.kind, sc := rfl, room := hr, gd := hgd, fc := Fc, fn := fun _ => rfl, own := fun _ _ h => h.elim }
    refine ⟨_, (okSs (mk := mk) ms (defBody st) _ (defScope st) kb hm).nox, M, S, startD N.length ds, r, rl, env_start rp (by omega), hx, ?_⟩
    cases r with
    | nx ρ1 S1 =>
      intro σ' M' H' r' x' e'
      have x2 : Ext M S H M' S1 H' := ⟨x'.up, fun p o h1 h2 h3 => let ⟨q1, q2, q3, _⟩ := x'.fgn p o h1 h2 h3 (no_own (M := M)); ⟨q1, q2, q3⟩⟩
      obtain ⟨a, b, c⟩ := gc_ok (d1 := .non) (v := .non) rl x2 r' rfl hg
      exact k _ M' H' a b c
    | rt d1 S1 =>
      intro v M' H' r' x' p'
      have x2 : Ext M S H M' S1 H' := ⟨x'.up, fun p o h1 h2 h3 => x'.fgn p o h1 h2 h3 (no_own (M := M))⟩
      obtain ⟨a, b, c⟩ := gc_ok rl x2 r' p' hg
      exact k _ M' H' a b c
end
/-! ### all defs -/
/-- the text's facts: where the defs stand, how they bind, what the globals are -/
structure Txt (T : Tb) (defs : Nat → Option FD) (G : Gx) (w : World) (mg : Str → Option Value) : Prop where
  fn : ∀ f, T.isFn f = true → ∃ (fa : Addr) (fd : FuncData) (x qual : Str) (dvs : List V) (kws : List (Str × V)) (st : Stmt) (N : List Str) (ms : Ss), mg (T.fname f) = some (.ref fa) ∧ FunD G.K x qual (defArgs st) (defBody st) (defScope st) dvs kws fa fd ∧ defs f = some ⟨(T.params f).length, N.length, ms⟩ ∧
    C8.scC N (T.params f) (defScope st) = true ∧ mSs T N (defScope st) ms (defBody st) = true ∧
    (T.kwn f = 0 → Binds G.K fd (T.params f) []) ∧ (T.kwn f ≠ 0 → KBinds G.K fd (T.params f) ((T.params f).drop ((T.params f).length - T.kwn f)) (kwG ((T.params f).drop ((T.params f).length - T.kwn f)).length) (kwG ((T.params f).drop ((T.params f).length - T.kwn f)).length))
  len : ∀ f d, defs f = some d → d.params = (T.params f).length
  glob : ∀ g d x, T.prg.glob g = some d → x ∈ T.gname g → ∃ v u, mg x = some u ∧ RelV v u ∧ ∀ (M : Mp) (n : Nat), Rp G M n d v
  gd : ∀ g k d, (T.prg.gdict g).lookup k = some d → ∃ p v, mg (T.dname g) = some (.ref p) ∧ KDct G.K w p k v ∧ ∀ (M : Mp) (n : Nat), Rp G M n d v
  bi : ∀ x ∈ biAll, mg x = none
theorem facts {T : Tb} {defs : Nat → Option FD} {G : Gx} {P : Program} {w : World} {mg : Str → Option Value} {base : Heap} (t : Txt T defs G w mg) : ∀ n, Facts T G P w mg base n (callF T.prg defs n)
  | 0 => by
    refine ⟨fun f hf => ?_, fun _ _ _ _ h => nn h, t.glob, t.gd, t.bi⟩
    obtain ⟨fa, fd, _, qual, _, _, st, N, ms, h1, h2, _, _, _, h6, h7⟩ := t.fn f hf
    have no : ∀ vs H Q E, ¬ spF G (T.params f).length (callF T.prg defs 0 f) vs H Q E := fun vs H Q E h => by
      obtain ⟨M, S, ds, d, S', _, _, _, h, _⟩ := h
      exact nn h
    exact ⟨fa, fd, h1, h2.kp, ⟨fun vs H Q E h => absurd h (no vs H Q E), fun A outer s H args us vs Q E _ _ _ _ _ h => absurd h (no vs H Q E)⟩, h6, h7⟩
  | n + 1 => by
    have ih := facts (P := P) (base := base) t n
    refine ⟨fun f hf => ?_, fun f ds S r h => ?_, t.glob, t.gd, t.bi⟩
    · obtain ⟨fa, fd, _, qual, _, _, st, N, ms, h1, h2, h3, h4, h5, h6, h7⟩ := t.fn f hf
      refine ⟨fa, fd, h1, h2.kp, (def_ok (mk := (callP T.prg defs n).2) ih h2 h4 h5).imp fun vs H Q E h => ?_, h6, h7⟩
      obtain ⟨M, S, ds, d, S', a, b, c, h, e⟩ := h
      refine ⟨M, S, ds, d, S', a, b, c, ?_, e⟩
      obtain ⟨q, hq, h⟩ := Option.bind_eq_some_iff.mp (show (defs f).bind (fun d => runD T.prg (callP T.prg defs n).1 (callP T.prg defs n).2 d ds S) = some (d, S') from h)
      rw [h3] at hq
      cases hq
      exact h
    · obtain ⟨q, hq, h⟩ := Option.bind_eq_some_iff.mp (show (defs f).bind (fun d => runD T.prg (callP T.prg defs n).1 (callP T.prg defs n).2 d ds S) = some r from h)
      unfold runD at h
      split at h
      · rename_i c
        rw [c]; exact t.len f q hq
      · cases h
theorem kw_binds {K : PySem.W.Frag} {x qual : Str} {params : Arguments} {body : List Stmt} {scope : Scope} {f : Addr} {fd : FuncData} {ps ks : List Str} (m kw : Nat) (F : FunD K x qual params body scope [] [] f fd) (hp : ps.length = m + kw + 1)
    (h : ∀ (kV doc pm : Value) (an : Option Addr) (cdv ct : Value) (us ws : List Value), us.length = m + 1 → ws.length = kw → bindArgs (PySem.W.fnOf x qual params body scope .none kV doc pm an cdv ct) ⟨us, ks.zip ws⟩ = pure (ps.zip (us ++ ws))) : KBinds K fd ps ks (kwG kw) (kwG kw) := by
  obtain ⟨oc, od, dV, kV, doc, pm, an, cdv, ct, osl, rfl, lk, hcd, hD, hK⟩ := F.ex
  rcases hD with ⟨_, rfl⟩ | ⟨e, _⟩
  · refine ⟨fun s us ws _ hl => ?_, fun {vs us zs ws} r rz => ?_⟩
    · by_cases hw : ws.length = kw
      · rw [kwG_eq hw] at hl ⊢
        rw [List.length_append] at hl
        exact .of_eq (h kV doc pm an cdv ct us ws (by omega) hw)
      · have e : kwG kw us ws = [] := if_neg hw
        rw [e] at hl
        rw [hp] at hl
        exact absurd hl (by simp)
    · unfold kwG
      have e := rz.length
      by_cases hw : ws.length = kw
      · rw [if_pos hw, if_pos (by omega)]
        exact r.append rz
      · rw [if_neg hw, if_neg (by omega)]
        exact .nil
  · exact absurd rfl e
end HN

/-! The law's head, where no repr is under way. -/
namespace HN
open PySem PySem.Spec PyProof.Rows L2
/-- the call of the law at the heap behind the top, the script told by H -/
theorem g_core {P : Program} {w : World} {K : PySem.W.Frag} {mg mb : Str → Option Value} {n : Nat} {fa a : Addr} {fd : FuncData} {x : Str} {sp : Sp} {st : Shared} {vs : List Value} {ns : List Int} (kx : K.In st.heap) (g1 : st.heap.Ns mainGlobals mg) (g2 : st.heap.Ns builtinsNs mb) (g3 : ∀ y : Str, y ≠ "__name__" → mb y = bootBuiltins y)
    (g4 : st.heap.NoLimit) (g5 : st.gens = #[]) (ha : st.heap.get? a = some { cls := .type "list", data := .seq vs.toArray }) (hr : Room n callerA) (F : ∀ b : Heap, K.In b → b.Ns mainGlobals mg → FnG P w K mg b n fa fd [x] sp) (hbind : ∀ (s : Shared) (u : Value), BindsTo s fd ⟨[u], []⟩ [(x, u)])
    (H : Hp) (only : Only H) (hsp : sp [.ref a] H (fun v _ => v = .bl true) fun _ _ _ => False) (hok : HOk P w H st.heap) (hA : ∀ b, H b ≠ none → b = a) (hK : H a ≠ none → K.lookup a = none) :
    codeAny (model P w) callerA (.call (.ref fa) ⟨[.ref a], []⟩) (fun r s' => r = .ok (.ret (.bool true)) ∧ OldK st.heap s'.heap ∧ s'.os = st.os ∧ AllBare s'.gens) st := by
  have keep : ∀ {b : Addr} {o : Obj}, st.heap.get? b = some o → H b = none → (hidT st.heap H).get? b = some o := fun e z => hidT_get e z
  have free : ∀ {b : Addr}, b ≠ a → H b = none := fun {b} hb => Decidable.byContradiction fun z => hb (hA b z)
  have isl : ∀ {b : Addr} {o : Obj} {es : Array DictEntry} {ep : Nat}, st.heap.get? b = some o → o.data = .dict es ep → H b = none := fun {b o es ep} e d => free fun z => by
    rw [z, ha] at e
    cases e
    exact nomatch (show Data.seq vs.toArray _ = Data.dict es ep from d)
  have nsk : ∀ {b : Addr} {m : Str → Option Value}, st.heap.Ns b m → (hidT st.heap H).Ns b m := fun z => by
    obtain ⟨o, es, ep, e, d, r⟩ := z
    exact ⟨o, es, ep, keep e (isl e d), d, r⟩
  have kb : K.In (hidT st.heap H) := fun b o e => keep (kx b o e) (Decidable.byContradiction fun z => by
    have hb := hA b z
    subst hb
    exact nomatch (hK z).symm.trans e)
  obtain ⟨mc, m1, m2⟩ := g4
  have e0 : Env0 P w K mg (hidT st.heap H) callerA [] st H :=
    { frames := rfl, mod := ⟨kb, nsk g1, ⟨mb, nsk g2, g3⟩, ⟨mc, nsk m1, m2⟩⟩, bs := fun b o e => of_hidT e, bsz := Nat.le_of_eq (hidT_size _ _), funs := trivial, frf := fun b hb => absurd hb List.not_mem_nil, hok := hok, bare := .of_eq g5 }
  refine codeAny_mono ((F _ kb (nsk g1)).run callerA [] st H ⟨[.ref a], []⟩ [.ref a] [.ref a] _ _ hr rfl e0 (hbind st (.ref a)) (.cons rfl .nil) hsp) fun r s' h => ?_
  match r, h with
  | .error e, h => exact False.elim h
  | .ok .next, h => exact h.elim
  | .ok .brk, h => exact h.elim
  | .ok .cont, h => exact h.elim
  | .ok (.ret u), h =>
    obtain ⟨v, H', os, bare, un, hok', rv, q⟩ := h
    cases (show v = .bl true from q)
    cases (show u = Value.bool true from rv)
    refine ⟨rfl, OldK.of_keep fun b o e => ?_, os, bare⟩
    by_cases z : H b = none
    · exact un.keep b o e z (fun y => absurd y List.not_mem_nil) (by simp)
    · rcases only b with z' | ⟨ob, ys, z'⟩
      · exact absurd z' z
      · have l1 := (hok b _ z').1
        have l2 := (hok' b _ (un.frzs b ob _ z')).1
        rw [e] at l1
        cases l1
        exact l2
theorem g_law {P : Program} {w : World} {K : PySem.W.Frag} {mg mb : Str → Option Value} {n : Nat} {fa a : Addr} {fd : FuncData} {x : Str} {sp : Sp} {st : Shared} {vs : List Value} {ns : List Int} (kx : K.In st.heap) (g1 : st.heap.Ns mainGlobals mg) (g2 : st.heap.Ns builtinsNs mb) (g3 : ∀ y : Str, y ≠ "__name__" → mb y = bootBuiltins y)
    (g4 : st.heap.NoLimit) (g5 : st.gens = #[]) (ha : st.heap.get? a = some { cls := .type "list", data := .seq vs.toArray }) (hi : IntsAre vs ns) (hl : ns.length ≤ sizeLine) (hr : Room n callerA) (F : ∀ b : Heap, K.In b → b.Ns mainGlobals mg → FnG P w K mg b n fa fd [x] sp)
    (hbind : ∀ (s : Shared) (u : Value), BindsTo s fd ⟨[u], []⟩ [(x, u)]) (hsp : ∀ H : Hp, Only H → SqL K H a (ns.map V.int) → sp [.ref a] H (fun v _ => v = .bl true) fun _ _ _ => False) :
    codeAny (model P w) callerA (.call (.ref fa) ⟨[.ref a], []⟩) (fun r s' => r = .ok (.ret (.bool true)) ∧ OldK st.heap s'.heap ∧ s'.os = st.os ∧ AllBare s'.gens) st := by
  have rv := vals_ints hi
  have go := g_core (x := x) (ns := ns) kx g1 g2 g3 g4 g5 ha hr F hbind
  by_cases hk : K.lookup a = none
  · let H : Hp := fun b => if b = a then some (.frz { cls := .type "list", data := .seq vs.toArray } (.lst (ns.map V.int))) else none
    have at_ : H a = some (.frz { cls := .type "list", data := .seq vs.toArray } (.lst (ns.map V.int))) := if_pos rfl
    have off : ∀ b, b ≠ a → H b = none := fun b hb => if_neg hb
    have on : Only H := fun b => by
      by_cases hb : b = a
      · subst hb; exact .inr ⟨_, _, at_⟩
      · exact .inl (off b hb)
    refine go H on (hsp H on (.inl (.inr ⟨_, at_⟩))) (fun b u z => ?_) (fun b z => Decidable.byContradiction fun hb => z (off b hb)) fun _ => hk
    by_cases hb : b = a
    · subst hb
      rw [at_] at z
      cases z
      exact ⟨ha, by rw [List.length_map]; exact hl, vs, _, rv, ha⟩
    · rw [off b hb] at z
      cases z
  · obtain ⟨o, ho⟩ := Option.ne_none_iff_exists'.mp hk
    have e := kx a o ho
    rw [ha] at e
    cases e
    refine go (fun _ => none) (fun _ => .inl rfl) (hsp _ (fun _ => .inl rfl) (.inr ⟨_, vs.toArray, _, ho, rfl, rfl, rfl, by rw [List.size_toArray, hi.length]; exact hl, by simpa using rv⟩)) (fun b u z => ?_) (fun b z => absurd rfl z) fun z => absurd rfl z
    exact nomatch (show (none : Option HO) = some u from z)
/-- the goal behind the top -/
theorem g_walk {l : PySem.W.OpenLaw} {m n : Nat} {q : Program} {loose : List Str} {XP : (Str → Option Value) → Heap → Prop} {YP : World → Heap → Prop} {d : DefRec} {K : Params → PySem.W.Frag} {sp : World → Sp} {x : Str} (hn : l.most = some m) (hm : m ≤ sizeLine) (hdf : d.params.defaults = []) (hr : Room n callerA)
    (hY : ∀ (w : World) (h : Heap), YP w h → (K w.params).In h)
    (F : ∀ (w : World) (mg : Str → Option Value) (fa : Addr) (h : Heap), (K w.params).In h → h.Ns mainGlobals mg → mg d.name = some (.ref fa) → ∃ fd : FuncData, (∀ (s : Shared) (u : Value), BindsTo s fd ⟨[u], []⟩ [(x, u)]) ∧ ∀ b : Heap, (K w.params).In b → b.Ns mainGlobals mg → FnG l.prog w (K w.params) mg b n fa fd [x] (sp w))
    (hsp : ∀ (w : World) (H : Hp) (a : Addr) (ns : List Int), ns.length ≤ m → Only H → SqL (K w.params) H a (ns.map V.int) → sp w [.ref a] H (fun v _ => v = .bl true) fun _ _ _ => False) :
    PySem.W.WalkO q loose XP YP l.row.toRowW d [] (fun f vs => PySem.call f vs) := by
  refine Att.attach_call hn hdf fun w _ st mg mb fa _ _ _ _ a vs ns G Y _ _ _ hmg hobj hints hlen hg => ?_
  have kx := hY w _ Y
  obtain ⟨fd, hb, hF⟩ := F w mg fa _ kx G.T.g hmg
  exact g_law kx G.T.g G.T.b G.T.builtins G.T.nolimit hg hobj hints (Nat.le_trans hlen hm) hr hF hb fun H hO hS => hsp w H a ns hlen hO hS
end HN

/-! From the program's top to the tables; from a run of law to the law. -/
namespace HN
open PySem PySem.Spec PyProof.Rows L2
mutual
/-- a constant of the top is this data -/
def datB (K : PySem.W.Frag) : D → Value → Bool
  | .non, u => (match u with | .none => true | _ => false)
  | .bl b, u => (match u with | .bool c => b == c | _ => false)
  | .int i, u => (match u with | .int j _ => decide (i = j) | _ => false)
  | .str s, u => (match u with | .str z _ => decide (s = z) && PyData.strOk s && decide (s.length ≤ 16777216) | _ => false)
  | .tup l, u => (match u with
    | .ref a => (match K.lookup a with
      | some ⟨.type c, _, .seq its _, _⟩ => decide (c = "tuple") && (decide (its.size ≤ sizeLine) && datBL K l its.toList)
      | _ => false)
    | _ => false)
  | _, _ => false
def datBL (K : PySem.W.Frag) : List D → List Value → Bool
  | [], us => us.isEmpty
  | d :: ds, us => (match us with | u :: r => datB K d u && datBL K ds r | [] => false)
end
mutual
theorem datB_ok {G : Gx} : ∀ {d : D} {u : Value}, datB G.K d u = true → ∃ v, RelV v u ∧ ∀ (M : Mp) (n : Nat), Rp G M n d v
  | .non, u, h => by
    cases u <;> first | exact nb h | skip
    exact ⟨.non, rfl, fun _ _ => rfl⟩
  | .bl b, u, h => by
    cases u <;> first | exact nb h | skip
    rename_i c
    have e : b = c := eq_of_beq (show (b == c) = true from h)
    exact ⟨.bl c, rfl, fun _ _ => by rw [e]; rfl⟩
  | .int i, u, h => by
    cases u <;> first | exact nb h | skip
    rename_i j t
    have e : i = j := of_decide_eq_true h
    exact ⟨.int j, ⟨t, rfl⟩, fun _ _ => by rw [e]; rfl⟩
  | .str s, u, h => by
    cases u <;> first | exact nb h | skip
    rename_i z t
    obtain ⟨h1, h3⟩ := and2 h
    obtain ⟨h1, h2⟩ := and2 h1
    have e : s = z := of_decide_eq_true h1
    subst e
    exact ⟨.str s, ⟨t, rfl⟩, fun _ _ => ⟨rfl, h2, of_decide_eq_true h3⟩⟩
  | .tup l, u, h => by
    cases u <;> first | exact nb h | skip
    rename_i a
    have h : (match G.K.lookup a with
      | some ⟨.type c, _, .seq its _, _⟩ => decide (c = "tuple") && (decide (its.size ≤ sizeLine) && datBL G.K l its.toList)
      | _ => false) = true := h
    cases q : G.K.lookup a with
    | none => rw [q] at h; exact nb h
    | some o =>
      obtain ⟨oc, od, dt, osl⟩ := o
      rw [q] at h
      cases oc <;> first | exact nb h | skip
      cases dt <;> first | exact nb h | skip
      rename_i c its n
      obtain ⟨h1, h2⟩ := and2 h
      obtain ⟨h3, h4⟩ := and2 h2
      obtain ⟨vs, v1, v2⟩ := datBL_ok h4
      exact ⟨.ref a, rfl, fun M m => ⟨a, vs, rfl, .inr ⟨_, its, n, q, congrArg Value.type (of_decide_eq_true h1), rfl, of_decide_eq_true h3, v1⟩, v2 M m⟩⟩
  | .lst _, _, h => nb h
  | .scr _, _, h => nb h
  | .obj _ _, _, h => nb h
  | .ref _, _, h => nb h
theorem datBL_ok {G : Gx} : ∀ {ds : List D} {us : List Value}, datBL G.K ds us = true → ∃ vs, Vals vs us ∧ ∀ (M : Mp) (n : Nat), RpL G M n ds vs
  | [], us, h => by
    cases us with
    | nil => exact ⟨[], .nil, fun _ _ => rfl⟩
    | cons _ _ => exact nb h
  | d :: ds, us, h => by
    cases us with
    | nil => exact nb h
    | cons u r =>
      obtain ⟨h1, h2⟩ := and2 h
      obtain ⟨v, v1, v2⟩ := datB_ok h1
      obtain ⟨vs, w1, w2⟩ := datBL_ok h2
      exact ⟨v :: vs, .cons v1 w1, fun M n => ⟨v, vs, rfl, v2 M n, w2 M n⟩⟩
end
/-! ### what is looked at behind the top -/
structure Look where
  fn : List He.DefD
  ts : List Str
  glob : List (Str × D)
  dict : List (Str × List (Str × D))
def globB (K : PySem.W.Frag) (q : Str × D) : Bool := match PySem.W.nsIn K mainGlobals q.1 with
  | some (some u) => datB K q.2 u
  | _ => false
def dictB (K : PySem.W.Frag) (q : Str × List (Str × D)) : Bool := He.eqO (PySem.W.nsIn K mainGlobals q.1) (some (some (.ref (He.ga K q.1)))) && q.2.all fun z => match PySem.W.nsIn K (He.ga K q.1) z.1 with
  | some (some u) => datB K z.2 u
  | _ => false
def Look.ok (L : Look) (K : PySem.W.Frag) : Bool := L.fn.all (fun d => d.ok K) && ((biAll.all fun x => He.eqO (PySem.W.nsIn K mainGlobals x) (some none)) && ((L.fn.all fun d => He.eqO (PySem.W.nsIn K mainGlobals d.at_.1) (some (some (.ref (He.ga K d.at_.1))))) && (L.glob.all (globB K) && L.dict.all (dictB K))))
abbrev AlM : Type := Bool × List He.FnW × List (Option (List (Option (Str × Int))))
def obsM (L : Look) (K : PySem.W.Frag) : AlM := (L.ok K, L.fn.map (fun d => He.fnW K d.at_), L.dict.map fun t => He.dicW K (He.ga K t.1))
def valM (L : Look) (w : World) : AlM := (true, L.fn.map He.DefD.val, L.dict.map fun t => some (He.keysIn w.params (t.2.map (·.1))))
def SaysM (L : Look) (w : World) (K : PySem.W.Frag) : Prop := obsM L K = valM L w
theorem says_of {L : Look} {w : World} {K : PySem.W.Frag} (h : obsM L K = valM L w) : SaysM L w K := h
def obsMG (n : Nat) (L : Look) (g : Addr → Option Obj) : AlM := obsM L (He.frG g (He.asD g n))
def hookM (n : Nat) (L : Look) : PySem.W.Hook where
  α := AlM
  obs := fun s => obsMG n L s.heap.get?
  val := fun w => valM L w
  says := fun w h => ∃ K : PySem.W.Frag, K.In h ∧ SaysM L w K
  of := fun _ _ e => ⟨_, He.frG_in, e⟩
  keeps := fun _ _ _ ⟨K, hK, c⟩ k => ⟨K, PySem.W.Frag.In.keeps hK k, c⟩
theorem obsMG_eq {n : Nat} {L : Look} {g : Addr → Option Obj} {s : Shared} (h : ∀ a, g a = s.heap.get? a) : obsMG n L g = (hookM n L).obs s := by
  have e : g = s.heap.get? := funext h
  rw [e] <;> rfl
section
variable {L : Look} {w : World} {K : PySem.W.Frag} {h : Heap} {mg : Str → Option Value}
theorem SaysM.ok (c : SaysM L w K) : L.ok K = true := congrArg (fun z : AlM => z.1) c
theorem SaysM.def_ (c : SaysM L w K) (i : Nat) {d : He.DefD} (h : L.fn[i]? = some d) : ∃ fd, FunD K d.name d.qual d.params d.body d.scope (d.dvs K) (d.kws K) (He.fAd K d.at_) fd := by
  have c2 := (and2 c.ok).1
  have e : L.fn.map (fun d => He.fnW K d.at_) = L.fn.map He.DefD.val := congrArg (fun z : AlM => z.2.1) c
  have e2 : (L.fn.map fun d => He.fnW K d.at_)[i]? = (L.fn.map He.DefD.val)[i]? := by rw [e]
  rw [List.getElem?_map, List.getElem?_map, h] at e2
  exact He.DefD.funD (Option.some.inj e2) (List.all_eq_true.mp c2 d (List.mem_of_getElem? h))
theorem SaysM.glo (c : SaysM L w K) (X : K.In h) (G : h.Ns mainGlobals mg) (i : Nat) {d : He.DefD} (h : L.fn[i]? = some d) : mg d.at_.1 = some (.ref (He.ga K d.at_.1)) :=
  PySem.W.mg_of X G (He.eqO_ok (List.all_eq_true.mp (and2 (and2 (and2 c.ok).2).2).1 d (List.mem_of_getElem? h)))
theorem SaysM.bi (c : SaysM L w K) (X : K.In h) (G : h.Ns mainGlobals mg) : ∀ x ∈ biAll, mg x = none := fun x hx =>
  PySem.W.mg_none_of X G (He.eqO_ok (List.all_eq_true.mp (and2 (and2 c.ok).2).1 x hx))
theorem nsM {α : Type} {x : Option (Option Value)} {f : Value → Bool} (h : (match x with | some (some u) => f u | _ => false) = true) : ∃ u, x = some (some u) ∧ f u = true := by
  cases x with
  | none => exact nb h
  | some r =>
    cases r with
    | none => exact nb h
    | some u => exact ⟨u, rfl, h⟩
theorem SaysM.glob {cA : Nat → Addr} {cN : Nat → List Str} (c : SaysM L w K) (X : K.In h) (G : h.Ns mainGlobals mg) {x : Str} {d : D} (hx : (x, d) ∈ L.glob) : ∃ v u, mg x = some u ∧ RelV v u ∧ ∀ (M : Mp) (n : Nat), Rp ⟨K, cA, cN⟩ M n d v := by
  obtain ⟨u, h1, h2⟩ := nsM (α := Unit) (List.all_eq_true.mp (and2 (and2 (and2 (and2 c.ok).2).2).2).1 (x, d) hx)
  obtain ⟨v, v1, v2⟩ := datB_ok (G := ⟨K, cA, cN⟩) h2
  exact ⟨v, u, PySem.W.mg_of X G h1, v1, v2⟩
theorem SaysM.dict {cA : Nat → Addr} {cN : Nat → List Str} (c : SaysM L w K) (X : K.In h) (G : h.Ns mainGlobals mg) {x k : Str} {l : List (Str × D)} {d : D} (hx : (x, l) ∈ L.dict) (hk : (k, d) ∈ l) : ∃ p v, mg x = some (.ref p) ∧ KDct K w p k v ∧ ∀ (M : Mp) (n : Nat), Rp ⟨K, cA, cN⟩ M n d v := by
  obtain ⟨h1, h2⟩ := and2 (List.all_eq_true.mp (and2 (and2 (and2 (and2 c.ok).2).2).2).2 (x, l) hx)
  obtain ⟨u, h3, h4⟩ := nsM (α := Unit) (List.all_eq_true.mp h2 (k, d) hk)
  obtain ⟨v, v1, v2⟩ := datB_ok (G := ⟨K, cA, cN⟩) h4
  have e : L.dict.map (fun t => He.dicW K (He.ga K t.1)) = L.dict.map fun t => some (He.keysIn w.params (t.2.map (·.1))) := congrArg (fun z : AlM => z.2.2) c
  obtain ⟨i, hi⟩ := List.getElem?_of_mem hx
  have e2 : (L.dict.map fun t => He.dicW K (He.ga K t.1))[i]? = (L.dict.map fun t => some (He.keysIn w.params (t.2.map (·.1))))[i]? := by rw [e]
  rw [List.getElem?_map, List.getElem?_map, hi] at e2
  obtain ⟨es, n, kd⟩ := He.dicW_ok (w := w) (Option.some.inj e2)
  exact ⟨_, v, PySem.W.mg_of X G (He.eqO_ok h1), ⟨es, n, u, kd.at_, kd.lit, h3, v1⟩, v2⟩
end
theorem lookup_mem {k : Str} {d : D} : ∀ {l : List (Str × D)}, l.lookup k = some d → (k, d) ∈ l
  | [], h => nn h
  | (k', d') :: r, h => by
    rw [List.lookup_cons] at h
    split at h
    · rename_i e
      cases h
      rw [eq_of_beq e]
      exact List.mem_cons_self
    · exact List.mem_cons_of_mem _ (lookup_mem h)
/-- the law's promise, from a run -/
theorem law_promise {K : PySem.W.Frag} {cA : Nat → Addr} {cN : Nat → List Str} {cf : List D → Store → Option (D × Store)} {H : Hp} {a : Addr} {ns : List Int} (h : ∃ S', cf [.scr (ns.map D.int)] [] = some (.bl true, S')) (hS : SqL K H a (ns.map V.int)) :
    spF ⟨K, cA, cN⟩ 1 cf [.ref a] H (fun v _ => v = .bl true) fun _ _ _ => False := by
  obtain ⟨S', h⟩ := h
  have rp : ∀ (ns : List Int) (M : Mp) (n : Nat), RpL ⟨K, cA, cN⟩ M n (ns.map D.int) (ns.map V.int) := fun ns M n => by
    induction ns with
    | nil => rfl
    | cons x r ih => exact ⟨_, _, rfl, rfl, ih⟩
  refine ⟨⟨H, fun _ => 0⟩, [], [.scr (ns.map D.int)], .bl true, S', rfl, ⟨fun p o h => h, fun a b ha => absurd ha (Nat.not_lt_zero _), fun a o ha => ?_⟩, ⟨.ref a, [], rfl, ⟨a, _, rfl, hS, rp ns _ _⟩, rfl⟩, h, fun v M' H' _ _ p => p⟩
  rw [List.getElem?_nil] at ha
  cases ha
/-! ### tables by lists -/
def tbOf (P : Prg) (rows : List (Nat × Str × List Str × Nat)) (gns dns : List (Nat × Str)) : Tb where
  prg := P
  fname := fun f => ((rows.lookup f).map (·.1)).getD ""
  params := fun f => ((rows.lookup f).map (·.2.1)).getD []
  kwn := fun f => ((rows.lookup f).map (·.2.2)).getD 0
  isFn := fun f => rows.any fun r => r.1 == f
  gname := fun g => (gns.filter fun r => r.1 == g).map (·.2)
  dname := fun g => (dns.lookup g).getD ""
def AllP {α : Type} (P : Nat → Prop) : List (Nat × α) → Prop
  | [] => True
  | i :: r => P i.1 ∧ AllP P r
theorem all_of {α : Type} {P : Nat → Prop} : ∀ {ids : List (Nat × α)}, AllP P ids → ∀ f, (ids.any fun r => r.1 == f) = true → P f
  | [], _, _, h => nb h
  | i :: r, a, f, h => by
    rw [List.any_cons, Bool.or_eq_true] at h
    rcases h with h | h
    · rw [← eq_of_beq h]; exact a.1
    · exact all_of a.2 f h
def AllM {α : Type} (P : Nat → α → Prop) : List (Nat × α) → Prop
  | [] => True
  | i :: r => P i.1 i.2 ∧ AllM P r
theorem all_mem {α : Type} {P : Nat → α → Prop} : ∀ {l : List (Nat × α)}, AllM P l → ∀ {g : Nat} {d : α}, l.lookup g = some d → P g d
  | [], _, _, _, h => nn h
  | (i, x) :: r, a, g, d, h => by
    rw [List.lookup_cons] at h
    split at h
    · rename_i e
      cases h
      rw [eq_of_beq e]; exact a.1
    · exact all_mem a.2 h
def AllX {α : Type} (P : α → Prop) : List α → Prop
  | [] => True
  | x :: r => P x ∧ AllX P r
theorem all_in {α : Type} {P : α → Prop} : ∀ {l : List α}, AllX P l → ∀ x ∈ l, P x
  | [], _, _, h => absurd h List.not_mem_nil
  | y :: r, a, x, h => by
    rcases List.mem_cons.mp h with rfl | h
    · exact a.1
    · exact all_in a.2 x h
theorem all_dict {P : Nat → Str → D → Prop} {l : List (Nat × List (Str × D))} (a : AllM (fun g t => ∀ k d, t.lookup k = some d → P g k d) l) {g : Nat} {k : Str} {d : D} (h : ((l.lookup g).getD []).lookup k = some d) : P g k d := by
  cases e : l.lookup g with
  | none => rw [e] at h; exact nn h
  | some t => rw [e] at h; exact all_mem a e k d h
theorem lens_of {P : Prg} {rows : List (Nat × Str × List Str × Nat)} {gns dns : List (Nat × Str)} {fds : List (Nat × FD)} (h : (fds.all fun q => decide (q.2.params = (((rows.lookup q.1).map (·.2.1)).getD []).length)) = true) :
    ∀ f d, fds.lookup f = some d → d.params = ((tbOf P rows gns dns).params f).length := fun f d e => by
  have m : (f, d) ∈ fds := by
    clear h
    induction fds with
    | nil => exact nn e
    | cons x r ih =>
      obtain ⟨i, y⟩ := x
      rw [List.lookup_cons] at e
      split at e
      · rename_i q
        cases e
        rw [eq_of_beq q]; exact List.mem_cons_self
      · exact List.mem_cons_of_mem _ (ih e)
  exact of_decide_eq_true (List.all_eq_true.mp h (f, d) m)
theorem callF_at {P : Prg} {defs : Nat → Option FD} {n f : Nat} {d : FD} {ds : List D} {S : Store} (h : defs f = some d) : callF P defs (n + 1) f ds S = runD P (callP P defs n).1 (callP P defs n).2 d ds S := by
  show (defs f).bind (fun d => runD P (callP P defs n).1 (callP P defs n).2 d ds S) = _
  rw [h] <;> rfl
end HN

/-! What the common defs of the laws compute: scripts, draws, types. -/
namespace HN
open PySem L2
/-- _law_state -/
def b14 : Ss := (.cons (.setOwn 1 (.comp [2] true (.e (.slice (.var 0) .absent (.int 63))) .nil (.bi .abs (.cons (.var 2) .nil)))) (.cons (.ite (.cmp .eq (.lenOwn 1) (.int 0)) (.cons (.setOwn 1 (.disp (.cons (.int 0) .nil))) .nil) .nil) (.cons (.share 1) (.cons (.ret (.shr (.disp (.cons (.int 0) (.cons (.var 1) .nil))))) .nil))))
abbrev fd14 : FD := ⟨1, 3, b14⟩
/-- _law_take -/
def b4 : Ss := (.cons (.set 2 (.idx (.var 0) (.int 1))) (.cons (.set 3 (.bin .mod (.idx (.var 0) (.int 0)) (.bi .len (.cons (.var 2) .nil)))) (.cons (.set 4 (.idx (.var 2) (.var 3))) (.cons (.ite (.cmp .ge (.var 4) (.int 1000000000000000000)) (.cons (.setIx (.var 2) (.var 3) (.bin .fdiv (.var 4) (.var 1))) (.cons (.ret (.bin .mod (.var 4) (.var 1))) .nil)) .nil) (.cons (.setIx (.var 0) (.int 0) (.bin .add (.idx (.var 0) (.int 0)) (.int 1))) (.cons (.set 5 (.bin .mod (.bi .int (.cons (.bin .add (.bin .mul (.var 4) (.int 48271)) (.bin .mul (.idx (.var 0) (.int 0)) (.int 69621))) .nil)) (.int 2147483647))) (.cons (.set 5 (.bin .mod (.bi .int (.cons (.bin .add (.bin .mul (.var 5) (.int 16807)) (.bin .mul (.idx (.var 0) (.int 0)) (.int 7919))) .nil)) (.int 1000000007))) (.cons (.ret (.bin .mod (.bin .fdiv (.var 5) (.int 7)) (.var 1))) .nil))))))))
abbrev fd4 : FD := ⟨2, 6, b4⟩
/-- _law_type -/
def b6 : Ss := (.cons (.set 2 (.call 4 (.cons (.var 0) (.cons (.int 9) .nil)))) (.cons (.ite (.or (.cons (.cmp .eq (.var 1) (.int 0)) (.cons (.cmp .lt (.var 2) (.int 5)) .nil))) (.cons (.ret (.idx (.frz (.disp (.cons (.tup (.cons (.str "int") .nil)) (.cons (.tup (.cons (.str "bool") .nil)) (.cons (.tup (.cons (.str "int") .nil)) (.cons (.tup (.cons (.str "any") .nil)) (.cons (.tup (.cons (.str "unit") .nil)) .nil))))))) (.bin .mod (.var 2) (.int 5)))) .nil) .nil) (.cons (.set 3 (.call 6 (.cons (.var 0) (.cons (.bin .sub (.var 1) (.int 1)) .nil)))) (.cons (.ite (.cmp .eq (.var 2) (.int 8)) (.cons (.ret (.tup (.cons (.str "box") (.cons (.var 3) .nil)))) .nil) .nil) (.cons (.set 4 (.call 6 (.cons (.var 0) (.cons (.bin .sub (.var 1) (.int 1)) .nil)))) (.cons (.ite (.cmp .eq (.var 2) (.int 7)) (.cons (.ret (.tup (.cons (.str "pair") (.cons (.var 3) (.cons (.var 4) .nil))))) .nil) .nil) (.cons (.ret (.tup (.cons (.str "fun") (.cons (.var 3) (.cons (.var 4) .nil))))) .nil)))))))
abbrev fd6 : FD := ⟨2, 5, b6⟩
/-- _law_less -/
def b5 : Ss := (.cons (.ite (.cmp .eq (.call 4 (.cons (.var 0) (.cons (.int 3) .nil))) (.int 0)) (.cons (.ret (.tup (.cons (.str "any") .nil))) .nil) .nil) (.cons (.set 2 (.frz (.comp [3] true (.e (.slice (.var 1) (.int 1) .absent)) .nil (.call 5 (.cons (.var 0) (.cons (.var 3) .nil)))))) (.cons (.ret (.bin .add (.tup (.cons (.idx (.var 1) (.int 0)) .nil)) (.bi .tuple (.cons (.var 2) .nil)))) .nil)))
abbrev fd5 : FD := ⟨2, 4, b5⟩
/-- _law_changed -/
def b8 : Ss := (.cons (.set 2 (.call 4 (.cons (.var 0) (.cons (.int 6) .nil)))) (.cons (.ite (.cmp .eq (.var 2) (.int 0)) (.cons (.ret (.tup (.cons (.str "any") .nil))) .nil) .nil) (.cons (.ite (.cmp .eq (.var 2) (.int 1)) (.cons (.ret (.call 6 (.cons (.var 0) (.cons (.int 1) .nil)))) .nil) .nil) (.cons (.ret (.bin .add (.tup (.cons (.idx (.var 1) (.int 0)) .nil)) (.bi .tuple (.cons (.frz (.comp [3] true (.e (.slice (.var 1) (.int 1) .absent)) .nil (.call 8 (.cons (.var 0) (.cons (.var 3) .nil))))) .nil)))) .nil))))
abbrev fd8 : FD := ⟨2, 4, b8⟩
/-- _law_fits -/
def b7 : Ss := (.cons (.ite (.or (.cons (.cmp .eq (.var 0) (.tup (.cons (.str "any") .nil))) (.cons (.cmp .eq (.var 1) (.tup (.cons (.str "any") .nil))) .nil))) (.cons (.ret (.bl true)) .nil) .nil) (.cons (.ite (.cmp .ne (.idx (.var 0) (.int 0)) (.idx (.var 1) (.int 0))) (.cons (.ret (.bl false)) .nil) .nil) (.cons (.ret (.cmp .eq (.bi .len (.cons (.frz (.comp [2] true (.range2 (.int 1) (.bi .len (.cons (.var 0) .nil))) (.cons (.not (.call 7 (.cons (.idx (.var 0) (.var 2)) (.cons (.idx (.var 1) (.var 2)) .nil)))) .nil) (.var 2))) .nil)) (.int 0))) .nil)))
abbrev fd7 : FD := ⟨2, 3, b7⟩
/-- _law_below -/
def b9 : Ss := (.cons (.ite (.cmp .eq (.var 0) (.tup (.cons (.str "any") .nil))) (.cons (.ret (.bl true)) .nil) .nil) (.cons (.ite (.cmp .ne (.idx (.var 0) (.int 0)) (.idx (.var 1) (.int 0))) (.cons (.ret (.bl false)) .nil) .nil) (.cons (.ret (.cmp .eq (.bi .len (.cons (.frz (.comp [2] true (.range2 (.int 1) (.bi .len (.cons (.var 0) .nil))) (.cons (.not (.call 9 (.cons (.idx (.var 0) (.var 2)) (.cons (.idx (.var 1) (.var 2)) .nil)))) .nil) (.var 2))) .nil)) (.int 0))) .nil)))
abbrev fd9 : FD := ⟨2, 3, b9⟩
/-- _law_meet -/
def b10 : Ss := (.cons (.ite (.cmp .eq (.var 0) (.tup (.cons (.str "any") .nil))) (.cons (.ret (.var 1)) .nil) .nil) (.cons (.ite (.cmp .eq (.var 1) (.tup (.cons (.str "any") .nil))) (.cons (.ret (.var 0)) .nil) .nil) (.cons (.ret (.bin .add (.tup (.cons (.idx (.var 0) (.int 0)) .nil)) (.bi .tuple (.cons (.frz (.comp [2] true (.range2 (.int 1) (.bi .len (.cons (.var 0) .nil))) .nil (.call 10 (.cons (.idx (.var 0) (.var 2)) (.cons (.idx (.var 1) (.var 2)) .nil))))) .nil)))) .nil)))
abbrev fd10 : FD := ⟨2, 3, b10⟩
/-- _law_high -/
def b11 : Ss := (.cons (.ret (.bin .add (.int 1) (.bi .max1 (.cons (.bin .add (.frz (.disp (.cons (.int 0) .nil))) (.frz (.comp [1] true (.e (.slice (.var 0) (.int 1) .absent)) .nil (.call 11 (.cons (.var 1) .nil))))) .nil)))) .nil)
abbrev fd11 : FD := ⟨1, 2, b11⟩
/-- _law_same -/
def b15 : Ss := (.cons (.ret (.and (.cons (.isi .isBool (.var 0)) (.cons (.cmp .eq (.var 0) (.var 1)) .nil)))) .nil)
abbrev fd15 : FD := ⟨2, 2, b15⟩
/-- _law_ground -/
def b16 : Ss := (.cons (.ite (.cmp .eq (.var 0) (.tup (.cons (.str "any") .nil))) (.cons (.ret (.bl true)) .nil) .nil) (.cons (.set 1 (.call 12 (.cons (.var 0) .nil))) (.cons (.set 2 (.call 13 (.cons (.var 1) .nil))) (.cons (.ite (.or (.cons (.cmp .ne (.var 1) (.idx (.var 0) (.int 0))) (.cons (.cmp .ne (.idx (.var 2) (.int 0)) (.var 1)) (.cons (.cmp .ne (.bi .len (.cons (.var 2) .nil)) (.bi .len (.cons (.var 0) .nil))) .nil)))) (.cons (.ret (.bl false)) .nil) .nil) (.cons (.ret (.cmp .eq (.bi .len (.cons (.frz (.comp [3] true (.e (.slice (.var 2) (.int 1) .absent)) (.cons (.cmp .ne (.var 3) (.tup (.cons (.str "any") .nil))) .nil) (.var 3))) .nil)) (.int 0))) .nil)))))
abbrev fd16 : FD := ⟨1, 4, b16⟩
/-- consistent -/
def b0 : Ss := (.cons (.ite (.or (.cons (.cmp .eq (.var 0) (.glob 0)) (.cons (.cmp .eq (.var 1) (.glob 0)) .nil))) (.cons (.ret (.bl true)) .nil) .nil) (.cons (.ite (.cmp .ne (.idx (.var 0) (.int 0)) (.idx (.var 1) (.int 0))) (.cons (.ret (.bl false)) .nil) .nil) (.cons (.forS [2] true (.range2 (.int 1) (.bi .len (.cons (.var 0) .nil))) (.cons (.ite (.not (.call 0 (.cons (.idx (.var 0) (.var 2)) (.cons (.idx (.var 1) (.var 2)) .nil)))) (.cons (.ret (.bl false)) .nil) .nil) .nil)) (.cons (.ret (.bl true)) .nil))))
abbrev fd0 : FD := ⟨2, 3, b0⟩
/-- less_exact -/
def b1 : Ss := (.cons (.ite (.cmp .eq (.var 0) (.glob 0)) (.cons (.ret (.bl true)) .nil) .nil) (.cons (.ite (.cmp .ne (.idx (.var 0) (.int 0)) (.idx (.var 1) (.int 0))) (.cons (.ret (.bl false)) .nil) .nil) (.cons (.forS [2] true (.range2 (.int 1) (.bi .len (.cons (.var 0) .nil))) (.cons (.ite (.not (.call 1 (.cons (.idx (.var 0) (.var 2)) (.cons (.idx (.var 1) (.var 2)) .nil)))) (.cons (.ret (.bl false)) .nil) .nil) .nil)) (.cons (.ret (.bl true)) .nil))))
abbrev fd1 : FD := ⟨2, 3, b1⟩
/-- meeting -/
def b2 : Ss := (.cons (.ite (.cmp .eq (.var 0) (.glob 0)) (.cons (.ret (.var 1)) .nil) .nil) (.cons (.ite (.cmp .eq (.var 1) (.glob 0)) (.cons (.ret (.var 0)) .nil) .nil) (.cons (.ite (.cmp .ne (.idx (.var 0) (.int 0)) (.idx (.var 1) (.int 0))) (.cons (.ret .non) .nil) .nil) (.cons (.setOwn 2 (.disp .nil)) (.cons (.forS [3] true (.range2 (.int 1) (.bi .len (.cons (.var 0) .nil))) (.cons (.set 4 (.call 2 (.cons (.idx (.var 0) (.var 3)) (.cons (.idx (.var 1) (.var 3)) .nil)))) (.cons (.ite (.cmp .is (.var 4) .non) (.cons (.ret .non) .nil) .nil) (.cons (.appOwn 2 (.var 4)) .nil)))) (.cons (.freeze 2) (.cons (.ret (.bin .add (.tup (.cons (.idx (.var 0) (.int 0)) .nil)) (.bi .tuple (.cons (.var 2) .nil)))) .nil)))))))
abbrev fd2 : FD := ⟨2, 5, b2⟩
/-- ground -/
def b12 : Ss := (.cons (.ret (.idx (.var 0) (.int 0))) .nil)
abbrev fd12 : FD := ⟨1, 1, b12⟩
/-- ground_type -/
def b13 : Ss := (.cons (.ret (.gdict 0 (.var 0))) .nil)
abbrev fd13 : FD := ⟨1, 1, b13⟩
/-- height -/
def b3 : Ss := (.cons (.set 1 (.int 0)) (.cons (.forS [2] true (.e (.slice (.var 0) (.int 1) .absent)) (.cons (.set 1 (.bi .max2 (.cons (.var 1) (.cons (.call 3 (.cons (.var 2) .nil)) .nil)))) .nil)) (.cons (.ret (.bin .add (.var 1) (.int 1))) .nil)))
abbrev fd3 : FD := ⟨1, 3, b3⟩
theorem gc_same {S : Store} {d : D} : gcD S (d, S) = (d, S) := by unfold gcD; split <;> rfl
theorem gc_len {S S' : Store} {d : D} (h : S'.length = S.length) : gcD S (d, S') = (d, S') := by
  unfold gcD
  split
  · rename_i c
    have e : S' = S := by rw [← c.1, ← h, List.take_length]
    rw [e]
  · rfl
theorem kept_none {S : Store} : keptD none S = true := keptD_iff.mpr True.intro
/-- a script's state -/
def stS (c : List Int) (k : Int) : Store := [.lst (c.map .int), .lst [.int k, .ref 0]]
structure GoodC (c : List Int) (k : Int) : Prop where
  ne : 0 < c.length
  nn : ∀ x ∈ c, 0 ≤ x
  k : 0 ≤ k
def Good (S : Store) : Prop := ∃ c k, S = stS c k ∧ GoodC c k
theorem atI_of {α : Type} {xs : List α} {i : Int} {j : Nat} {v : α} (h : xs[j]? = some v) (e : i = j) : atI xs i = some v := by
  subst e
  exact atI_nat h
theorem ixN_of {n : Nat} {i : Int} {j : Nat} (h : j < n) (e : i = j) : ixN n i = some j := by
  subst e
  unfold ixN
  rw [if_pos (by omega), if_pos (by omega)] <;> simp
theorem at0 {α : Type} (a : α) (r : List α) : atI (a :: r) 0 = some a := atI_of (j := 0) rfl rfl
theorem at1 {α : Type} (a b : α) (r : List α) : atI (a :: b :: r) 1 = some b := atI_of (j := 1) rfl rfl
theorem at2 {α : Type} (a b c : α) (r : List α) : atI (a :: b :: c :: r) 2 = some c := atI_of (j := 2) rfl rfl
theorem at3 {α : Type} (a b c d : α) (r : List α) : atI (a :: b :: c :: d :: r) 3 = some d := atI_of (j := 3) rfl rfl
theorem at4 {α : Type} (a b c d e : α) (r : List α) : atI (a :: b :: c :: d :: e :: r) 4 = some e := atI_of (j := 4) rfl rfl
theorem at5 {α : Type} (a b c d e f : α) (r : List α) : atI (a :: b :: c :: d :: e :: f :: r) 5 = some f := atI_of (j := 5) rfl rfl
theorem at6 {α : Type} (a b c d e f g : α) (r : List α) : atI (a :: b :: c :: d :: e :: f :: g :: r) 6 = some g := atI_of (j := 6) rfl rfl
theorem ix0 (n : Nat) : ixN (n + 1) 0 = some 0 := ixN_of (j := 0) (by omega) rfl
theorem ix1 (n : Nat) : ixN (n + 2) 1 = some 1 := ixN_of (j := 1) (by omega) rfl
theorem Good.len {S : Store} (g : Good S) : S.length = 2 := by
  obtain ⟨c, k, rfl, _⟩ := g
  rfl
theorem rg_nat {a b : Int} (h0 : 0 ≤ a) (h1 : a ≤ 4294967296) (h2 : 0 ≤ b) (h3 : b ≤ 4294967296) : rgOk a b = true := by
  unfold rgOk
  simp only [Bool.and_eq_true, decide_eq_true_eq]
  omega
theorem callF_on {P : Prg} {defs : Nat → Option FD} {n f : Nat} {d : FD} {ds : List D} {S : Store} (h : defs f = some d) : callF P defs (n + 1) f ds S = runD P (callF P defs n) (callP P defs n).2 d ds S := callF_at h
theorem compD_map {T : D → Store → Option (Option D × Store)} {S : Store} {g : D → D} : ∀ {l : List D}, (∀ x ∈ l, T x S = some (some (g x), S)) → compD T l S = some (l.map g, S)
  | [], _ => rfl
  | x :: r, h => by
    show (T x S).bind _ = _
    rw [h x List.mem_cons_self]
    show (compD T r S).map _ = _
    rw [compD_map fun y hy => h y (List.mem_cons_of_mem _ hy)] <;> rfl
theorem cut_pre {α : Type} {l : List α} {k : Nat} (h : l.length ≤ k) : cutD l none (some (k : Int)) = l := by
  unfold cutD
  rw [HT.sIx_none, HT.sIx_nat, Nat.min_eq_right h, List.drop_zero, Nat.sub_zero, List.take_length]
theorem cut_from {α : Type} (l : List α) (k : Nat) : cutD l (some (k : Int)) none = l.drop k := by
  unfold cutD
  rw [HT.sIx_none, HT.sIx_nat]
  by_cases h : k ≤ l.length
  · rw [Nat.min_eq_left h, List.take_of_length_le (by rw [List.length_drop]; exact Nat.le_refl _)]
  · rw [Nat.min_eq_right (by omega), List.drop_length, List.drop_eq_nil_of_le (by omega), List.take_nil]
theorem str_inj {a b : String} : (Str.ofString a = Str.ofString b) = (a = b) := by
  refine propext ⟨fun h => ?_, fun h => by rw [h]⟩
  rw [Str.ofString_eq_toList, Str.ofString_eq_toList] at h
  have h1 : (a.toList.map Char.toNat) = (b.toList.map Char.toNat) := by
    have := congrArg (fun z : Str => z.cps.toList) h
    simpa using this
  have inj : ∀ x y : Char, x.toNat = y.toNat → x = y := fun x y e => Char.ext (UInt32.toNat_inj.mp e)
  have h2 : a.toList = b.toList := by
    have go : ∀ l m : List Char, l.map Char.toNat = m.map Char.toNat → l = m := by
      intro l
      induction l with
      | nil => intro m e; cases m <;> simp_all
      | cons x r ih =>
        intro m e
        cases m with
        | nil => simp at e
        | cons y s =>
          simp at e
          rw [inj x y e.1, ih s e.2]
    exact go _ _ h1
  exact String.toList_inj.mp h2
theorem str_beq {a b : String} : (Str.ofString a == Str.ofString b) = decide (a = b) := by
  rw [Bool.eq_iff_iff, beq_iff_eq, decide_eq_true_iff, str_inj]
theorem cut1 {α : Type} (a : α) (r : List α) : cutD (a :: r) (some 1) none = r := cut_from (a :: r) 1
theorem cut2 {α : Type} (a b : α) (r : List α) : cutD (a :: b :: r) (some 2) none = r := cut_from (a :: b :: r) 2
theorem lr0 : List.range 0 = [] := rfl
theorem lr1 : List.range 1 = [0] := rfl
theorem lr2 : List.range 2 = [0, 1] := rfl
theorem lr3 : List.range 3 = [0, 1, 2] := rfl
theorem lr4 : List.range 4 = [0, 1, 2, 3] := rfl
theorem lr5 : List.range 5 = [0, 1, 2, 3, 4] := rfl
theorem lr6 : List.range 6 = [0, 1, 2, 3, 4, 5] := rfl
theorem lr7 : List.range 7 = [0, 1, 2, 3, 4, 5, 6] := rfl
theorem n_non : isNon .non = true := rfl
theorem n_tup (l : List D) : isNon (.tup l) = false := rfl
theorem n_lst (l : List D) : isNon (.lst l) = false := rfl
theorem n_int (i : Int) : isNon (.int i) = false := rfl
theorem n_str (s : Str) : isNon (.str s) = false := rfl
theorem n_bl (b : Bool) : isNon (.bl b) = false := rfl
theorem eq_int (a b : Int) : eqD (.int a) (.int b) = some (a == b) := rfl
theorem eq_str (a b : Str) : eqD (.str a) (.str b) = some (a == b) := rfl
theorem eq_bl (a b : Bool) : eqD (.bl a) (.bl b) = some (a == b) := rfl
theorem take_ok {P : Prg} {defs : Nat → Option FD} {n : Nat} {S : Store} (h : defs 4 = some fd4) (g : Good S) {most : Int} (h0 : 0 < most) (h1 : most < 1073741824) :
    ∃ r S', Good S' ∧ 0 ≤ r ∧ r < most ∧ callF P defs (n + 1) 4 [.ref 1, .int most] S = some (.int r, S') := by
  obtain ⟨c, k, rfl, g⟩ := g
  have hl := g.ne
  have m0 : 0 ≤ k % (c.length : Int) := Int.emod_nonneg _ (by omega)
  have m1 : k % (c.length : Int) < c.length := Int.emod_lt_of_pos _ (by omega)
  obtain ⟨j, hj⟩ : ∃ j : Nat, k % (c.length : Int) = j := ⟨(k % (c.length : Int)).toNat, by omega⟩
  have hjl : j < c.length := by omega
  have hx : 0 ≤ c[j] := g.nn _ (List.getElem_mem hjl)
  have ha : atI (c.map D.int) (j : Int) = some (.int c[j]) := atI_nat (by rw [List.getElem?_map, List.getElem?_eq_getElem hjl]; rfl)
  have hi : ixN c.length (j : Int) = some j := ixN_of hjl rfl
  rw [callF_at h]
  by_cases hb : 1000000000000000000 ≤ c[j]
  · refine ⟨c[j] % most, stS (c.set j (c[j] / most)) k, ⟨_, k, rfl, by rw [List.length_set]; exact hl, fun x hx => ?_, g.k⟩, Int.emod_nonneg _ (by omega), Int.emod_lt_of_pos _ h0, ?_⟩
    · rcases List.mem_or_eq_of_mem_set hx with q | q
      · exact g.nn x q
      · rw [q]; exact Int.ediv_nonneg (by omega) (by omega)
    · simp [runD, exSs, exS, evE, evT, evEs, evL, evI, evIfs, evAnd, evOr, evAndT, evOrT, startD, getV, putV, getO, putVs, putT, wipeE, idxD, sliceD, isAbs, partD, biD, one1, lenD, intD, absD, tupleD, max2D, maxD, maxI, intsD, isTD, tyD, isT, binD, cmpD, isD, n_non, n_tup, n_lst, n_int, n_str, n_bl, truD, lstAt, itemsD, forD, compD, turnF, turnC, kept_none, szOk, rg_nat, rangeL, at0, at1, at2, at3, at4, at5, at6, ix0, ix1, gc_same, gc_len, eq_int, eq_str, eq_bl, str_inj, str_beq, cut1, cut2, lr0, lr1, lr2, lr3, lr4, lr5, lr6, lr7, b4, stS, hl, hj, ha, hb, hi, h0, h1]
  · obtain ⟨x, hx1⟩ : ∃ x : Int, x = ((c[j] * 48271 + (k + 1) * 69621) % 2147483647 * 16807 + (k + 1) * 7919) % 1000000007 := ⟨_, rfl⟩
    refine ⟨x / 7 % most, stS c (k + 1), ⟨c, k + 1, rfl, hl, g.nn, by have := g.k; omega⟩, Int.emod_nonneg _ (by omega), Int.emod_lt_of_pos _ h0, ?_⟩
    simp [runD, exSs, exS, evE, evT, evEs, evL, evI, evIfs, evAnd, evOr, evAndT, evOrT, startD, getV, putV, getO, putVs, putT, wipeE, idxD, sliceD, isAbs, partD, biD, one1, lenD, intD, absD, tupleD, max2D, maxD, maxI, intsD, isTD, tyD, isT, binD, cmpD, isD, n_non, n_tup, n_lst, n_int, n_str, n_bl, truD, lstAt, itemsD, forD, compD, turnF, turnC, kept_none, szOk, rg_nat, rangeL, at0, at1, at2, at3, at4, at5, at6, ix0, ix1, gc_same, gc_len, eq_int, eq_str, eq_bl, str_inj, str_beq, cut1, cut2, lr0, lr1, lr2, lr3, lr4, lr5, lr6, lr7, b4, stS, hl, hj, ha, hb, hi, h0, h1, hx1]
theorem state_ok {P : Prg} {defs : Nat → Option FD} {n : Nat} {ns : List Int} (h : defs 14 = some fd14) (hl : ns.length ≤ 63) : ∃ S, Good S ∧ callF P defs (n + 1) 14 [.scr (ns.map .int)] [] = some (.ref 1, S) := by
  have hc : cutD (ns.map D.int) none (some 63) = ns.map D.int := cut_pre (k := 63) (by rw [List.length_map]; exact hl)
  have hl2 : ns.length ≤ 16777216 := by omega
  have hm : ∀ T : D → Store → Option (Option D × Store), (∀ i : Int, T (.int i) [] = some (some (.int (if i < 0 then -i else i)), [])) → compD T (ns.map D.int) [] = some ((ns.map fun i => D.int (if i < 0 then -i else i)), []) := fun T hT => by
    have z := compD_map (T := T) (S := []) (g := fun d => match d with | .int i => .int (if i < 0 then -i else i) | d => d) (l := ns.map D.int) (fun x hx => by
      obtain ⟨i, _, rfl⟩ := List.mem_map.mp hx
      exact hT i)
    rw [z, List.map_map] <;> rfl
  rw [callF_on h]
  by_cases h0 : ns = []
  · subst h0
    refine ⟨stS [0] 0, ⟨[0], 0, rfl, ⟨by decide, by simp, by decide⟩⟩, ?_⟩
    have hc : cutD ([] : List D) none (some 63) = [] := hc
    simp [runD, exSs, exS, evE, evT, evEs, evL, evI, evIfs, evAnd, evOr, evAndT, evOrT, startD, getV, putV, getO, putVs, putT, wipeE, idxD, sliceD, isAbs, partD, biD, one1, lenD, intD, absD, tupleD, max2D, maxD, maxI, intsD, isTD, tyD, isT, binD, cmpD, isD, n_non, n_tup, n_lst, n_int, n_str, n_bl, truD, lstAt, itemsD, forD, compD, turnF, turnC, kept_none, szOk, rg_nat, rangeL, at0, at1, at2, at3, at4, at5, at6, ix0, ix1, gc_same, gc_len, eq_int, eq_str, eq_bl, str_inj, str_beq, cut1, cut2, lr0, lr1, lr2, lr3, lr4, lr5, lr6, lr7, b14, stS, hc, gcD, D.bdd, eq_int]
  · refine ⟨stS (ns.map fun i => if i < 0 then -i else i) 0, ⟨_, 0, rfl, ⟨by rw [List.length_map]; exact List.length_pos_iff.mpr h0, fun x hx => ?_, by decide⟩⟩, ?_⟩
    · obtain ⟨i, _, rfl⟩ := List.mem_map.mp hx
      split <;> omega
    · simp [runD, exSs, exS, evE, evT, evEs, evL, evI, evIfs, evAnd, evOr, evAndT, evOrT, startD, getV, putV, getO, putVs, putT, wipeE, idxD, sliceD, isAbs, partD, biD, one1, lenD, intD, absD, tupleD, max2D, maxD, maxI, intsD, isTD, tyD, isT, binD, cmpD, isD, n_non, n_tup, n_lst, n_int, n_str, n_bl, truD, lstAt, itemsD, forD, compD, turnF, turnC, kept_none, szOk, rg_nat, rangeL, at0, at1, at2, at3, at4, at5, at6, ix0, ix1, gc_same, gc_len, eq_int, eq_str, eq_bl, str_inj, str_beq, cut1, cut2, lr0, lr1, lr2, lr3, lr4, lr5, lr6, lr7, b14, stS, hc, gcD, D.bdd, hl2]
      rw [hm _ fun i => by simp [runD, exSs, exS, evE, evT, evEs, evL, evI, evIfs, evAnd, evOr, evAndT, evOrT, startD, getV, putV, getO, putVs, putT, wipeE, idxD, sliceD, isAbs, partD, biD, one1, lenD, intD, absD, tupleD, max2D, maxD, maxI, intsD, isTD, tyD, isT, binD, cmpD, isD, n_non, n_tup, n_lst, n_int, n_str, n_bl, truD, lstAt, itemsD, forD, compD, turnF, turnC, kept_none, szOk, rg_nat, rangeL, at0, at1, at2, at3, at4, at5, at6, ix0, ix1, gc_same, gc_len, eq_int, eq_str, eq_bl, str_inj, str_beq, cut1, cut2, lr0, lr1, lr2, lr3, lr4, lr5, lr6, lr7]]
      simp [runD, exSs, exS, evE, evT, evEs, evL, evI, evIfs, evAnd, evOr, evAndT, evOrT, startD, getV, putV, getO, putVs, putT, wipeE, idxD, sliceD, isAbs, partD, biD, one1, lenD, intD, absD, tupleD, max2D, maxD, maxI, intsD, isTD, tyD, isT, binD, cmpD, isD, n_non, n_tup, n_lst, n_int, n_str, n_bl, truD, lstAt, itemsD, forD, compD, turnF, turnC, kept_none, szOk, rg_nat, rangeL, at0, at1, at2, at3, at4, at5, at6, ix0, ix1, gc_same, gc_len, eq_int, eq_str, eq_bl, str_inj, str_beq, cut1, cut2, lr0, lr1, lr2, lr3, lr4, lr5, lr6, lr7, stS, D.bdd, eq_int, h0]
end HN

set_option maxHeartbeats 0
/-! Types: what the defs on types compute. -/
namespace HN
open PySem L2
inductive Ty where
  | any | int | bool | unit | fn (a b : Ty) | pair (a b : Ty) | box (a : Ty)
deriving DecidableEq
def Ty.d : Ty → D
  | .any => .tup [.str "any"]
  | .int => .tup [.str "int"]
  | .bool => .tup [.str "bool"]
  | .unit => .tup [.str "unit"]
  | .fn a b => .tup [.str "fun", a.d, b.d]
  | .pair a b => .tup [.str "pair", a.d, b.d]
  | .box a => .tup [.str "box", a.d]
def Ty.h : Ty → Nat
  | .fn a b => max a.h b.h + 1
  | .pair a b => max a.h b.h + 1
  | .box a => a.h + 1
  | _ => 1
theorem Ty.h_pos (t : Ty) : 1 ≤ t.h := by cases t <;> simp [Ty.h]
theorem Ty.data (t : Ty) : D.data t.d = true := by
  induction t <;> simp_all [Ty.d, D.data, D.dataL]
theorem Ty.dep (t : Ty) : D.dep t.d = t.h := by
  induction t <;> simp_all [Ty.d, Ty.h, D.dep, D.depL]
theorem Ty.eqv : ∀ a b : Ty, D.eqv a.d b.d = decide (a = b)
  | .any, b => by cases b <;> simp [Ty.d, D.eqv, D.eqvL, str_beq]
  | .int, b => by cases b <;> simp [Ty.d, D.eqv, D.eqvL, str_beq]
  | .bool, b => by cases b <;> simp [Ty.d, D.eqv, D.eqvL, str_beq]
  | .unit, b => by cases b <;> simp [Ty.d, D.eqv, D.eqvL, str_beq]
  | .fn a1 a2, b => by cases b <;> simp [Ty.d, D.eqv, D.eqvL, str_beq, Ty.eqv a1, Ty.eqv a2]
  | .pair a1 a2, b => by cases b <;> simp [Ty.d, D.eqv, D.eqvL, str_beq, Ty.eqv a1, Ty.eqv a2]
  | .box a1, b => by cases b <;> simp [Ty.d, D.eqv, D.eqvL, str_beq, Ty.eqv a1]
theorem Ty.eq {a b : Ty} (h : a.h ≤ 64 ∨ b.h ≤ 64) : eqD a.d b.d = some (decide (a = b)) := by
  unfold eqD
  rw [Ty.data, Ty.data, Ty.dep, Ty.dep, Ty.eqv, decide_eq_true (by omega : min a.h b.h ≤ 64)]
  rfl
theorem Ty.eq_any (a : Ty) : eqD a.d (.tup [.str "any"]) = some (decide (a = .any)) := Ty.eq (b := .any) (.inr (by decide))
theorem Ty.ne_any (a : Ty) : eqD a.d (.tup [.str "any"]) = some (decide (a = .any)) := Ty.eq (b := .any) (.inr (by decide))
theorem eqA {s : Str} {l : List D} (h : D.dataL l = true) : eqD (.tup (.str s :: l)) (.tup [.str "any"]) = some (s == "any" && l.isEmpty) := by
  unfold eqD
  have e1 : D.data (.tup (.str s :: l)) = true := by simp [D.data, D.dataL, h]
  have e2 : D.data (.tup [.str "any"]) = true := rfl
  have e3 : D.dep (.tup [.str "any"]) = 1 := rfl
  rw [e1, e2, e3, decide_eq_true (by omega : min (D.dep (.tup (.str s :: l))) 1 ≤ 64)]
  cases l <;> simp [D.eqv, D.eqvL]
theorem eqA0 {s : Str} : eqD (.tup [.str s]) (.tup [.str "any"]) = some (s == "any") := by
  rw [eqA (l := []) rfl]; simp
def Ty.fits : Ty → Ty → Bool
  | .any, _ => true
  | _, .any => true
  | .int, .int => true
  | .bool, .bool => true
  | .unit, .unit => true
  | .fn a b, .fn c d => a.fits c && b.fits d
  | .pair a b, .pair c d => a.fits c && b.fits d
  | .box a, .box c => a.fits c
  | _, _ => false
def Ty.le : Ty → Ty → Bool
  | .any, _ => true
  | .int, .int => true
  | .bool, .bool => true
  | .unit, .unit => true
  | .fn a b, .fn c d => a.le c && b.le d
  | .pair a b, .pair c d => a.le c && b.le d
  | .box a, .box c => a.le c
  | _, _ => false
def Ty.meet : Ty → Ty → Ty
  | .any, b => b
  | a, .any => a
  | .fn a b, .fn c d => .fn (a.meet c) (b.meet d)
  | .pair a b, .pair c d => .pair (a.meet c) (b.meet d)
  | .box a, .box c => .box (a.meet c)
  | a, _ => a
section
variable {P : Prg} {defs : Nat → Option FD}
theorem height_ok (h : defs 3 = some fd3) : ∀ (t : Ty) {n : Nat} (S : Store), t.h ≤ n → callF P defs n 3 [t.d] S = some (.int t.h, S)
  | t, 0, S, hn => by have := t.h_pos; omega
  | .any, n + 1, S, hn => by rw [callF_on h]; simp [runD, exSs, exS, evE, evT, evEs, evL, evI, evIfs, evAnd, evOr, evAndT, evOrT, startD, getV, putV, getO, putVs, putT, wipeE, idxD, sliceD, isAbs, partD, biD, one1, lenD, intD, absD, tupleD, max2D, maxD, maxI, intsD, isTD, tyD, isT, binD, cmpD, isD, n_non, n_tup, n_lst, n_int, n_str, n_bl, truD, lstAt, itemsD, forD, compD, turnF, turnC, kept_none, szOk, rg_nat, rangeL, at0, at1, at2, at3, at4, at5, at6, ix0, ix1, gc_same, gc_len, eq_int, eq_str, eq_bl, str_inj, str_beq, cut1, cut2, lr0, lr1, lr2, lr3, lr4, lr5, lr6, lr7, b3, Ty.d, Ty.h]
  | .int, n + 1, S, hn => by rw [callF_on h]; simp [runD, exSs, exS, evE, evT, evEs, evL, evI, evIfs, evAnd, evOr, evAndT, evOrT, startD, getV, putV, getO, putVs, putT, wipeE, idxD, sliceD, isAbs, partD, biD, one1, lenD, intD, absD, tupleD, max2D, maxD, maxI, intsD, isTD, tyD, isT, binD, cmpD, isD, n_non, n_tup, n_lst, n_int, n_str, n_bl, truD, lstAt, itemsD, forD, compD, turnF, turnC, kept_none, szOk, rg_nat, rangeL, at0, at1, at2, at3, at4, at5, at6, ix0, ix1, gc_same, gc_len, eq_int, eq_str, eq_bl, str_inj, str_beq, cut1, cut2, lr0, lr1, lr2, lr3, lr4, lr5, lr6, lr7, b3, Ty.d, Ty.h]
  | .bool, n + 1, S, hn => by rw [callF_on h]; simp [runD, exSs, exS, evE, evT, evEs, evL, evI, evIfs, evAnd, evOr, evAndT, evOrT, startD, getV, putV, getO, putVs, putT, wipeE, idxD, sliceD, isAbs, partD, biD, one1, lenD, intD, absD, tupleD, max2D, maxD, maxI, intsD, isTD, tyD, isT, binD, cmpD, isD, n_non, n_tup, n_lst, n_int, n_str, n_bl, truD, lstAt, itemsD, forD, compD, turnF, turnC, kept_none, szOk, rg_nat, rangeL, at0, at1, at2, at3, at4, at5, at6, ix0, ix1, gc_same, gc_len, eq_int, eq_str, eq_bl, str_inj, str_beq, cut1, cut2, lr0, lr1, lr2, lr3, lr4, lr5, lr6, lr7, b3, Ty.d, Ty.h]
  | .unit, n + 1, S, hn => by rw [callF_on h]; simp [runD, exSs, exS, evE, evT, evEs, evL, evI, evIfs, evAnd, evOr, evAndT, evOrT, startD, getV, putV, getO, putVs, putT, wipeE, idxD, sliceD, isAbs, partD, biD, one1, lenD, intD, absD, tupleD, max2D, maxD, maxI, intsD, isTD, tyD, isT, binD, cmpD, isD, n_non, n_tup, n_lst, n_int, n_str, n_bl, truD, lstAt, itemsD, forD, compD, turnF, turnC, kept_none, szOk, rg_nat, rangeL, at0, at1, at2, at3, at4, at5, at6, ix0, ix1, gc_same, gc_len, eq_int, eq_str, eq_bl, str_inj, str_beq, cut1, cut2, lr0, lr1, lr2, lr3, lr4, lr5, lr6, lr7, b3, Ty.d, Ty.h]
  | .fn a b, n + 1, S, hn => by
    have e1 := fun S => height_ok h a (n := n) S (by simp [Ty.h] at hn; omega)
    have e2 := fun S => height_ok h b (n := n) S (by simp [Ty.h] at hn; omega)
    rw [callF_on h]; simp [runD, exSs, exS, evE, evT, evEs, evL, evI, evIfs, evAnd, evOr, evAndT, evOrT, startD, getV, putV, getO, putVs, putT, wipeE, idxD, sliceD, isAbs, partD, biD, one1, lenD, intD, absD, tupleD, max2D, maxD, maxI, intsD, isTD, tyD, isT, binD, cmpD, isD, n_non, n_tup, n_lst, n_int, n_str, n_bl, truD, lstAt, itemsD, forD, compD, turnF, turnC, kept_none, szOk, rg_nat, rangeL, at0, at1, at2, at3, at4, at5, at6, ix0, ix1, gc_same, gc_len, eq_int, eq_str, eq_bl, str_inj, str_beq, cut1, cut2, lr0, lr1, lr2, lr3, lr4, lr5, lr6, lr7, b3, Ty.d, Ty.h, e1, e2]
    omega
  | .pair a b, n + 1, S, hn => by
    have e1 := fun S => height_ok h a (n := n) S (by simp [Ty.h] at hn; omega)
    have e2 := fun S => height_ok h b (n := n) S (by simp [Ty.h] at hn; omega)
    rw [callF_on h]; simp [runD, exSs, exS, evE, evT, evEs, evL, evI, evIfs, evAnd, evOr, evAndT, evOrT, startD, getV, putV, getO, putVs, putT, wipeE, idxD, sliceD, isAbs, partD, biD, one1, lenD, intD, absD, tupleD, max2D, maxD, maxI, intsD, isTD, tyD, isT, binD, cmpD, isD, n_non, n_tup, n_lst, n_int, n_str, n_bl, truD, lstAt, itemsD, forD, compD, turnF, turnC, kept_none, szOk, rg_nat, rangeL, at0, at1, at2, at3, at4, at5, at6, ix0, ix1, gc_same, gc_len, eq_int, eq_str, eq_bl, str_inj, str_beq, cut1, cut2, lr0, lr1, lr2, lr3, lr4, lr5, lr6, lr7, b3, Ty.d, Ty.h, e1, e2]
    omega
  | .box a, n + 1, S, hn => by
    have e1 := fun S => height_ok h a (n := n) S (by simp [Ty.h] at hn; omega)
    rw [callF_on h]; simp [runD, exSs, exS, evE, evT, evEs, evL, evI, evIfs, evAnd, evOr, evAndT, evOrT, startD, getV, putV, getO, putVs, putT, wipeE, idxD, sliceD, isAbs, partD, biD, one1, lenD, intD, absD, tupleD, max2D, maxD, maxI, intsD, isTD, tyD, isT, binD, cmpD, isD, n_non, n_tup, n_lst, n_int, n_str, n_bl, truD, lstAt, itemsD, forD, compD, turnF, turnC, kept_none, szOk, rg_nat, rangeL, at0, at1, at2, at3, at4, at5, at6, ix0, ix1, gc_same, gc_len, eq_int, eq_str, eq_bl, str_inj, str_beq, cut1, cut2, lr0, lr1, lr2, lr3, lr4, lr5, lr6, lr7, b3, Ty.d, Ty.h, e1]
    omega
theorem high_ok (h : defs 11 = some fd11) : ∀ (t : Ty) {n : Nat} (S : Store), t.h ≤ n → callF P defs n 11 [t.d] S = some (.int t.h, S)
  | t, 0, S, hn => by have := t.h_pos; omega
  | .any, n + 1, S, hn => by rw [callF_on h]; simp [runD, exSs, exS, evE, evT, evEs, evL, evI, evIfs, evAnd, evOr, evAndT, evOrT, startD, getV, putV, getO, putVs, putT, wipeE, idxD, sliceD, isAbs, partD, biD, one1, lenD, intD, absD, tupleD, max2D, maxD, maxI, intsD, isTD, tyD, isT, binD, cmpD, isD, n_non, n_tup, n_lst, n_int, n_str, n_bl, truD, lstAt, itemsD, forD, compD, turnF, turnC, kept_none, szOk, rg_nat, rangeL, at0, at1, at2, at3, at4, at5, at6, ix0, ix1, gc_same, gc_len, eq_int, eq_str, eq_bl, str_inj, str_beq, cut1, cut2, lr0, lr1, lr2, lr3, lr4, lr5, lr6, lr7, b11, Ty.d, Ty.h]
  | .int, n + 1, S, hn => by rw [callF_on h]; simp [runD, exSs, exS, evE, evT, evEs, evL, evI, evIfs, evAnd, evOr, evAndT, evOrT, startD, getV, putV, getO, putVs, putT, wipeE, idxD, sliceD, isAbs, partD, biD, one1, lenD, intD, absD, tupleD, max2D, maxD, maxI, intsD, isTD, tyD, isT, binD, cmpD, isD, n_non, n_tup, n_lst, n_int, n_str, n_bl, truD, lstAt, itemsD, forD, compD, turnF, turnC, kept_none, szOk, rg_nat, rangeL, at0, at1, at2, at3, at4, at5, at6, ix0, ix1, gc_same, gc_len, eq_int, eq_str, eq_bl, str_inj, str_beq, cut1, cut2, lr0, lr1, lr2, lr3, lr4, lr5, lr6, lr7, b11, Ty.d, Ty.h]
  | .bool, n + 1, S, hn => by rw [callF_on h]; simp [runD, exSs, exS, evE, evT, evEs, evL, evI, evIfs, evAnd, evOr, evAndT, evOrT, startD, getV, putV, getO, putVs, putT, wipeE, idxD, sliceD, isAbs, partD, biD, one1, lenD, intD, absD, tupleD, max2D, maxD, maxI, intsD, isTD, tyD, isT, binD, cmpD, isD, n_non, n_tup, n_lst, n_int, n_str, n_bl, truD, lstAt, itemsD, forD, compD, turnF, turnC, kept_none, szOk, rg_nat, rangeL, at0, at1, at2, at3, at4, at5, at6, ix0, ix1, gc_same, gc_len, eq_int, eq_str, eq_bl, str_inj, str_beq, cut1, cut2, lr0, lr1, lr2, lr3, lr4, lr5, lr6, lr7, b11, Ty.d, Ty.h]
  | .unit, n + 1, S, hn => by rw [callF_on h]; simp [runD, exSs, exS, evE, evT, evEs, evL, evI, evIfs, evAnd, evOr, evAndT, evOrT, startD, getV, putV, getO, putVs, putT, wipeE, idxD, sliceD, isAbs, partD, biD, one1, lenD, intD, absD, tupleD, max2D, maxD, maxI, intsD, isTD, tyD, isT, binD, cmpD, isD, n_non, n_tup, n_lst, n_int, n_str, n_bl, truD, lstAt, itemsD, forD, compD, turnF, turnC, kept_none, szOk, rg_nat, rangeL, at0, at1, at2, at3, at4, at5, at6, ix0, ix1, gc_same, gc_len, eq_int, eq_str, eq_bl, str_inj, str_beq, cut1, cut2, lr0, lr1, lr2, lr3, lr4, lr5, lr6, lr7, b11, Ty.d, Ty.h]
  | .fn a b, n + 1, S, hn => by
    have e1 := fun S => high_ok h a (n := n) S (by simp [Ty.h] at hn; omega)
    have e2 := fun S => high_ok h b (n := n) S (by simp [Ty.h] at hn; omega)
    rw [callF_on h]; simp [runD, exSs, exS, evE, evT, evEs, evL, evI, evIfs, evAnd, evOr, evAndT, evOrT, startD, getV, putV, getO, putVs, putT, wipeE, idxD, sliceD, isAbs, partD, biD, one1, lenD, intD, absD, tupleD, max2D, maxD, maxI, intsD, isTD, tyD, isT, binD, cmpD, isD, n_non, n_tup, n_lst, n_int, n_str, n_bl, truD, lstAt, itemsD, forD, compD, turnF, turnC, kept_none, szOk, rg_nat, rangeL, at0, at1, at2, at3, at4, at5, at6, ix0, ix1, gc_same, gc_len, eq_int, eq_str, eq_bl, str_inj, str_beq, cut1, cut2, lr0, lr1, lr2, lr3, lr4, lr5, lr6, lr7, b11, Ty.d, Ty.h, e1, e2]
    omega
  | .pair a b, n + 1, S, hn => by
    have e1 := fun S => high_ok h a (n := n) S (by simp [Ty.h] at hn; omega)
    have e2 := fun S => high_ok h b (n := n) S (by simp [Ty.h] at hn; omega)
    rw [callF_on h]; simp [runD, exSs, exS, evE, evT, evEs, evL, evI, evIfs, evAnd, evOr, evAndT, evOrT, startD, getV, putV, getO, putVs, putT, wipeE, idxD, sliceD, isAbs, partD, biD, one1, lenD, intD, absD, tupleD, max2D, maxD, maxI, intsD, isTD, tyD, isT, binD, cmpD, isD, n_non, n_tup, n_lst, n_int, n_str, n_bl, truD, lstAt, itemsD, forD, compD, turnF, turnC, kept_none, szOk, rg_nat, rangeL, at0, at1, at2, at3, at4, at5, at6, ix0, ix1, gc_same, gc_len, eq_int, eq_str, eq_bl, str_inj, str_beq, cut1, cut2, lr0, lr1, lr2, lr3, lr4, lr5, lr6, lr7, b11, Ty.d, Ty.h, e1, e2]
    omega
  | .box a, n + 1, S, hn => by
    have e1 := fun S => high_ok h a (n := n) S (by simp [Ty.h] at hn; omega)
    rw [callF_on h]; simp [runD, exSs, exS, evE, evT, evEs, evL, evI, evIfs, evAnd, evOr, evAndT, evOrT, startD, getV, putV, getO, putVs, putT, wipeE, idxD, sliceD, isAbs, partD, biD, one1, lenD, intD, absD, tupleD, max2D, maxD, maxI, intsD, isTD, tyD, isT, binD, cmpD, isD, n_non, n_tup, n_lst, n_int, n_str, n_bl, truD, lstAt, itemsD, forD, compD, turnF, turnC, kept_none, szOk, rg_nat, rangeL, at0, at1, at2, at3, at4, at5, at6, ix0, ix1, gc_same, gc_len, eq_int, eq_str, eq_bl, str_inj, str_beq, cut1, cut2, lr0, lr1, lr2, lr3, lr4, lr5, lr6, lr7, b11, Ty.d, Ty.h, e1]
    omega
theorem same_ok (h : defs 15 = some fd15) (a b : Bool) {n : Nat} (S : Store) : callF P defs (n + 1) 15 [.bl a, .bl b] S = some (.bl (a == b), S) := by
  rw [callF_on h]; simp [runD, exSs, exS, evE, evT, evEs, evL, evI, evIfs, evAnd, evOr, evAndT, evOrT, startD, getV, putV, getO, putVs, putT, wipeE, idxD, sliceD, isAbs, partD, biD, one1, lenD, intD, absD, tupleD, max2D, maxD, maxI, intsD, isTD, tyD, isT, binD, cmpD, isD, n_non, n_tup, n_lst, n_int, n_str, n_bl, truD, lstAt, itemsD, forD, compD, turnF, turnC, kept_none, szOk, rg_nat, rangeL, at0, at1, at2, at3, at4, at5, at6, ix0, ix1, gc_same, gc_len, eq_int, eq_str, eq_bl, str_inj, str_beq, cut1, cut2, lr0, lr1, lr2, lr3, lr4, lr5, lr6, lr7, b15]
end
end HN

set_option maxHeartbeats 0
/-! Types: the plain laws. -/
namespace HN
open PySem L2
theorem Ty.fits_comm : ∀ a b : Ty, a.fits b = b.fits a
  | .any, b => by cases b <;> rfl
  | .int, b => by cases b <;> rfl
  | .bool, b => by cases b <;> rfl
  | .unit, b => by cases b <;> rfl
  | .fn a1 a2, b => by cases b <;> simp [Ty.fits, Ty.fits_comm a1, Ty.fits_comm a2]
  | .pair a1 a2, b => by cases b <;> simp [Ty.fits, Ty.fits_comm a1, Ty.fits_comm a2]
  | .box a1, b => by cases b <;> simp [Ty.fits, Ty.fits_comm a1]
theorem Ty.meet_comm : ∀ a b : Ty, a.fits b = true → a.meet b = b.meet a
  | .any, b, h => by cases b <;> rfl
  | .int, b, h => by cases b <;> first | rfl | exact nb h
  | .bool, b, h => by cases b <;> first | rfl | exact nb h
  | .unit, b, h => by cases b <;> first | rfl | exact nb h
  | .fn a1 a2, b, h => by
    cases b <;> first | rfl | exact nb h | skip
    obtain ⟨h1, h2⟩ := and2 h
    show Ty.fn _ _ = Ty.fn _ _
    rw [Ty.meet_comm _ _ h1, Ty.meet_comm _ _ h2]
  | .pair a1 a2, b, h => by
    cases b <;> first | rfl | exact nb h | skip
    obtain ⟨h1, h2⟩ := and2 h
    show Ty.pair _ _ = Ty.pair _ _
    rw [Ty.meet_comm _ _ h1, Ty.meet_comm _ _ h2]
  | .box a1, b, h => by
    cases b <;> first | rfl | exact nb h | skip
    rename_i c
    show Ty.box _ = Ty.box _
    rw [Ty.meet_comm a1 c h]
theorem Ty.le_refl : ∀ a : Ty, a.le a = true
  | .any => rfl
  | .int => rfl
  | .bool => rfl
  | .unit => rfl
  | .fn a b => by simp [Ty.le, Ty.le_refl a, Ty.le_refl b]
  | .pair a b => by simp [Ty.le, Ty.le_refl a, Ty.le_refl b]
  | .box a => by simp [Ty.le, Ty.le_refl a]
theorem Ty.le_meet : ∀ a b : Ty, a.fits b = true → a.le (a.meet b) = true
  | .any, b, h => by cases b <;> rfl
  | .int, b, h => by cases b <;> first | rfl | exact nb h
  | .bool, b, h => by cases b <;> first | rfl | exact nb h
  | .unit, b, h => by cases b <;> first | rfl | exact nb h
  | .fn a1 a2, b, h => by
    cases b <;> first | exact Ty.le_refl _ | exact nb h | skip
    obtain ⟨h1, h2⟩ := and2 h
    simp [Ty.meet, Ty.le, Ty.le_meet _ _ h1, Ty.le_meet _ _ h2]
  | .pair a1 a2, b, h => by
    cases b <;> first | exact Ty.le_refl _ | exact nb h | skip
    obtain ⟨h1, h2⟩ := and2 h
    simp [Ty.meet, Ty.le, Ty.le_meet _ _ h1, Ty.le_meet _ _ h2]
  | .box a1, b, h => by
    cases b <;> first | exact Ty.le_refl _ | exact nb h | skip
    have h : a1.fits _ = true := h
    simp [Ty.meet, Ty.le, Ty.le_meet _ _ h]
theorem Ty.le_meet2 {a b : Ty} (h : a.fits b = true) : b.le (a.meet b) = true := by
  rw [Ty.meet_comm _ _ h]
  exact Ty.le_meet _ _ (by rw [Ty.fits_comm]; exact h)
theorem Ty.meet_le : ∀ a b c : Ty, a.fits b = true → a.le c = true → b.le c = true → (a.meet b).le c = true
  | .any, b, c, h, h1, h2 => by cases b <;> exact h2
  | .int, b, c, h, h1, h2 => by cases b <;> first | exact h1 | exact nb h
  | .bool, b, c, h, h1, h2 => by cases b <;> first | exact h1 | exact nb h
  | .unit, b, c, h, h1, h2 => by cases b <;> first | exact h1 | exact nb h
  | .fn a1 a2, b, c, h, h1, h2 => by
    cases b <;> first | exact h1 | exact nb h | skip
    cases c <;> first | exact nb h1 | skip
    obtain ⟨k1, k2⟩ := and2 h
    obtain ⟨k3, k4⟩ := and2 h1
    obtain ⟨k5, k6⟩ := and2 h2
    simp [Ty.meet, Ty.le, Ty.meet_le _ _ _ k1 k3 k5, Ty.meet_le _ _ _ k2 k4 k6]
  | .pair a1 a2, b, c, h, h1, h2 => by
    cases b <;> first | exact h1 | exact nb h | skip
    cases c <;> first | exact nb h1 | skip
    obtain ⟨k1, k2⟩ := and2 h
    obtain ⟨k3, k4⟩ := and2 h1
    obtain ⟨k5, k6⟩ := and2 h2
    simp [Ty.meet, Ty.le, Ty.meet_le _ _ _ k1 k3 k5, Ty.meet_le _ _ _ k2 k4 k6]
  | .box a1, b, c, h, h1, h2 => by
    cases b <;> first | exact h1 | exact nb h | skip
    cases c <;> first | exact nb h1 | skip
    have k := Ty.meet_le _ _ _ (show a1.fits _ = true from h) (show a1.le _ = true from h1) (show Ty.le _ _ = true from h2)
    exact k
theorem Ty.h_meet : ∀ a b : Ty, (a.meet b).h ≤ max a.h b.h
  | .any, b => by cases b <;> simp [Ty.meet, Ty.h] <;> omega
  | .int, b => by cases b <;> simp [Ty.meet, Ty.h] <;> omega
  | .bool, b => by cases b <;> simp [Ty.meet, Ty.h] <;> omega
  | .unit, b => by cases b <;> simp [Ty.meet, Ty.h] <;> omega
  | .fn a1 a2, b => by
    cases b <;> simp [Ty.meet, Ty.h] <;> try omega
    rename_i b1 b2
    have := Ty.h_meet a1 b1
    have := Ty.h_meet a2 b2
    omega
  | .pair a1 a2, b => by
    cases b <;> simp [Ty.meet, Ty.h] <;> try omega
    rename_i b1 b2
    have := Ty.h_meet a1 b1
    have := Ty.h_meet a2 b2
    omega
  | .box a1, b => by
    cases b <;> simp [Ty.meet, Ty.h] <;> try omega
    rename_i b1
    have := Ty.h_meet a1 b1
    omega
theorem gcD_fst {S S1 : Store} {d : D} : ∃ S', gcD S (d, S1) = (d, S') := by
  unfold gcD
  split
  · exact ⟨_, rfl⟩
  · exact ⟨_, rfl⟩
/-! ### parts of a body -/
def Ss.take : Nat → Ss → Ss
  | 0, _ => .nil
  | _ + 1, .nil => .nil
  | k + 1, .cons s r => .cons s (Ss.take k r)
def Ss.drop : Nat → Ss → Ss
  | 0, b => b
  | _ + 1, .nil => .nil
  | k + 1, .cons s r => Ss.drop k r
theorem exSs_cut {P : Prg} {c m : CallF} : ∀ (k : Nat) (b : Ss) (ρ : Env) (S : Store), exSs P c m b ρ S = (exSs P c m (b.take k) ρ S).bind fun r => match r with | .nx ρ1 S1 => exSs P c m (b.drop k) ρ1 S1 | .rt d S1 => some (.rt d S1)
  | 0, b, ρ, S => rfl
  | k + 1, .nil, ρ, S => rfl
  | k + 1, .cons s r, ρ, S => by
    show (exS P c m s ρ S).bind _ = ((exS P c m s ρ S).bind _).bind _
    cases exS P c m s ρ S with
    | none => rfl
    | some f =>
      cases f with
      | nx ρ1 S1 => exact exSs_cut k r ρ1 S1
      | rt d S1 => rfl
theorem exSs_at {P : Prg} {c m : CallF} {k : Nat} {b : Ss} {ρ ρ1 : Env} {S S1 : Store} (h : exSs P c m (b.take k) ρ S = some (.nx ρ1 S1)) : exSs P c m b ρ S = exSs P c m (b.drop k) ρ1 S1 := by
  rw [exSs_cut k b, h] <;> rfl
theorem law_of {P : Prg} {defs : Nat → Option FD} {n k f : Nat} {fd : FD} {ds : List D} {ρ1 : Env} {S1 S2 : Store} (h : defs f = some fd) (hp : ds.length = fd.params)
    (e1 : exSs P (callF P defs n) (callP P defs n).2 (fd.body.take k) (startD fd.slots ds) [] = some (.nx ρ1 S1)) (e2 : exSs P (callF P defs n) (callP P defs n).2 (fd.body.drop k) ρ1 S1 = some (.rt (.bl true) S2)) : ∃ S, callF P defs (n + 1) f ds [] = some (.bl true, S) := by
  obtain ⟨S', hg⟩ := gcD_fst (S := []) (S1 := S2) (d := .bl true)
  refine ⟨S', ?_⟩
  rw [callF_on h]
  unfold runD
  rw [if_pos hp, exSs_at e1, e2]
  show some (gcD [] (D.bl true, S2)) = _
  rw [hg]
end HN

set_option maxHeartbeats 0
namespace HN
open PySem L2
section
variable {P : Prg} {defs : Nat → Option FD}
theorem consistent_ok (h : defs 0 = some fd0) (hg : P.glob 0 = some (.tup [.str "any"])) : ∀ (a b : Ty) {n : Nat} (S : Store), a.h ≤ n → callF P defs n 0 [a.d, b.d] S = some (.bl (a.fits b), S)
  | t, b, 0, S, hn => by have := t.h_pos; omega
  | .any, b, n + 1, S, hn => by rw [callF_on h]; cases b <;> simp [runD, exSs, exS, evE, evT, evEs, evL, evI, evIfs, evAnd, evOr, evAndT, evOrT, startD, getV, putV, getO, putVs, putT, wipeE, idxD, sliceD, isAbs, partD, biD, one1, lenD, intD, absD, tupleD, max2D, maxD, maxI, intsD, isTD, tyD, isT, binD, cmpD, isD, n_non, n_tup, n_lst, n_int, n_str, n_bl, truD, lstAt, itemsD, forD, compD, turnF, turnC, kept_none, szOk, rg_nat, rangeL, at0, at1, at2, at3, at4, at5, at6, ix0, ix1, gc_same, gc_len, eq_int, eq_str, eq_bl, str_inj, str_beq, cut1, cut2, lr0, lr1, lr2, lr3, lr4, lr5, lr6, lr7, b0, Ty.d, eqA, eqA0, D.dataL, Ty.data, Ty.fits, hg]
  | .int, b, n + 1, S, hn => by rw [callF_on h]; cases b <;> simp [runD, exSs, exS, evE, evT, evEs, evL, evI, evIfs, evAnd, evOr, evAndT, evOrT, startD, getV, putV, getO, putVs, putT, wipeE, idxD, sliceD, isAbs, partD, biD, one1, lenD, intD, absD, tupleD, max2D, maxD, maxI, intsD, isTD, tyD, isT, binD, cmpD, isD, n_non, n_tup, n_lst, n_int, n_str, n_bl, truD, lstAt, itemsD, forD, compD, turnF, turnC, kept_none, szOk, rg_nat, rangeL, at0, at1, at2, at3, at4, at5, at6, ix0, ix1, gc_same, gc_len, eq_int, eq_str, eq_bl, str_inj, str_beq, cut1, cut2, lr0, lr1, lr2, lr3, lr4, lr5, lr6, lr7, b0, Ty.d, eqA, eqA0, D.dataL, Ty.data, Ty.fits, hg]
  | .bool, b, n + 1, S, hn => by rw [callF_on h]; cases b <;> simp [runD, exSs, exS, evE, evT, evEs, evL, evI, evIfs, evAnd, evOr, evAndT, evOrT, startD, getV, putV, getO, putVs, putT, wipeE, idxD, sliceD, isAbs, partD, biD, one1, lenD, intD, absD, tupleD, max2D, maxD, maxI, intsD, isTD, tyD, isT, binD, cmpD, isD, n_non, n_tup, n_lst, n_int, n_str, n_bl, truD, lstAt, itemsD, forD, compD, turnF, turnC, kept_none, szOk, rg_nat, rangeL, at0, at1, at2, at3, at4, at5, at6, ix0, ix1, gc_same, gc_len, eq_int, eq_str, eq_bl, str_inj, str_beq, cut1, cut2, lr0, lr1, lr2, lr3, lr4, lr5, lr6, lr7, b0, Ty.d, eqA, eqA0, D.dataL, Ty.data, Ty.fits, hg]
  | .unit, b, n + 1, S, hn => by rw [callF_on h]; cases b <;> simp [runD, exSs, exS, evE, evT, evEs, evL, evI, evIfs, evAnd, evOr, evAndT, evOrT, startD, getV, putV, getO, putVs, putT, wipeE, idxD, sliceD, isAbs, partD, biD, one1, lenD, intD, absD, tupleD, max2D, maxD, maxI, intsD, isTD, tyD, isT, binD, cmpD, isD, n_non, n_tup, n_lst, n_int, n_str, n_bl, truD, lstAt, itemsD, forD, compD, turnF, turnC, kept_none, szOk, rg_nat, rangeL, at0, at1, at2, at3, at4, at5, at6, ix0, ix1, gc_same, gc_len, eq_int, eq_str, eq_bl, str_inj, str_beq, cut1, cut2, lr0, lr1, lr2, lr3, lr4, lr5, lr6, lr7, b0, Ty.d, eqA, eqA0, D.dataL, Ty.data, Ty.fits, hg]
  | .fn a1 a2, b, n + 1, S, hn => by
    have e1 := fun b S => consistent_ok h hg a1 b (n := n) S (by simp [Ty.h] at hn; omega)
    have e2 := fun b S => consistent_ok h hg a2 b (n := n) S (by simp [Ty.h] at hn; omega)
    rw [callF_on h]
    cases b with
    | fn c1 c2 => cases k1 : a1.fits c1 <;> cases k2 : a2.fits c2 <;> simp [runD, exSs, exS, evE, evT, evEs, evL, evI, evIfs, evAnd, evOr, evAndT, evOrT, startD, getV, putV, getO, putVs, putT, wipeE, idxD, sliceD, isAbs, partD, biD, one1, lenD, intD, absD, tupleD, max2D, maxD, maxI, intsD, isTD, tyD, isT, binD, cmpD, isD, n_non, n_tup, n_lst, n_int, n_str, n_bl, truD, lstAt, itemsD, forD, compD, turnF, turnC, kept_none, szOk, rg_nat, rangeL, at0, at1, at2, at3, at4, at5, at6, ix0, ix1, gc_same, gc_len, eq_int, eq_str, eq_bl, str_inj, str_beq, cut1, cut2, lr0, lr1, lr2, lr3, lr4, lr5, lr6, lr7, b0, Ty.d, eqA, eqA0, D.dataL, Ty.data, Ty.fits, hg, e1, e2, k1, k2]
    | _ => simp [runD, exSs, exS, evE, evT, evEs, evL, evI, evIfs, evAnd, evOr, evAndT, evOrT, startD, getV, putV, getO, putVs, putT, wipeE, idxD, sliceD, isAbs, partD, biD, one1, lenD, intD, absD, tupleD, max2D, maxD, maxI, intsD, isTD, tyD, isT, binD, cmpD, isD, n_non, n_tup, n_lst, n_int, n_str, n_bl, truD, lstAt, itemsD, forD, compD, turnF, turnC, kept_none, szOk, rg_nat, rangeL, at0, at1, at2, at3, at4, at5, at6, ix0, ix1, gc_same, gc_len, eq_int, eq_str, eq_bl, str_inj, str_beq, cut1, cut2, lr0, lr1, lr2, lr3, lr4, lr5, lr6, lr7, b0, Ty.d, eqA, eqA0, D.dataL, Ty.data, Ty.fits, hg]
  | .pair a1 a2, b, n + 1, S, hn => by
    have e1 := fun b S => consistent_ok h hg a1 b (n := n) S (by simp [Ty.h] at hn; omega)
    have e2 := fun b S => consistent_ok h hg a2 b (n := n) S (by simp [Ty.h] at hn; omega)
    rw [callF_on h]
    cases b with
    | pair c1 c2 => cases k1 : a1.fits c1 <;> cases k2 : a2.fits c2 <;> simp [runD, exSs, exS, evE, evT, evEs, evL, evI, evIfs, evAnd, evOr, evAndT, evOrT, startD, getV, putV, getO, putVs, putT, wipeE, idxD, sliceD, isAbs, partD, biD, one1, lenD, intD, absD, tupleD, max2D, maxD, maxI, intsD, isTD, tyD, isT, binD, cmpD, isD, n_non, n_tup, n_lst, n_int, n_str, n_bl, truD, lstAt, itemsD, forD, compD, turnF, turnC, kept_none, szOk, rg_nat, rangeL, at0, at1, at2, at3, at4, at5, at6, ix0, ix1, gc_same, gc_len, eq_int, eq_str, eq_bl, str_inj, str_beq, cut1, cut2, lr0, lr1, lr2, lr3, lr4, lr5, lr6, lr7, b0, Ty.d, eqA, eqA0, D.dataL, Ty.data, Ty.fits, hg, e1, e2, k1, k2]
    | _ => simp [runD, exSs, exS, evE, evT, evEs, evL, evI, evIfs, evAnd, evOr, evAndT, evOrT, startD, getV, putV, getO, putVs, putT, wipeE, idxD, sliceD, isAbs, partD, biD, one1, lenD, intD, absD, tupleD, max2D, maxD, maxI, intsD, isTD, tyD, isT, binD, cmpD, isD, n_non, n_tup, n_lst, n_int, n_str, n_bl, truD, lstAt, itemsD, forD, compD, turnF, turnC, kept_none, szOk, rg_nat, rangeL, at0, at1, at2, at3, at4, at5, at6, ix0, ix1, gc_same, gc_len, eq_int, eq_str, eq_bl, str_inj, str_beq, cut1, cut2, lr0, lr1, lr2, lr3, lr4, lr5, lr6, lr7, b0, Ty.d, eqA, eqA0, D.dataL, Ty.data, Ty.fits, hg]
  | .box a1, b, n + 1, S, hn => by
    have e1 := fun b S => consistent_ok h hg a1 b (n := n) S (by simp [Ty.h] at hn; omega)
    rw [callF_on h]
    cases b with
    | box c1 => cases k1 : a1.fits c1 <;> simp [runD, exSs, exS, evE, evT, evEs, evL, evI, evIfs, evAnd, evOr, evAndT, evOrT, startD, getV, putV, getO, putVs, putT, wipeE, idxD, sliceD, isAbs, partD, biD, one1, lenD, intD, absD, tupleD, max2D, maxD, maxI, intsD, isTD, tyD, isT, binD, cmpD, isD, n_non, n_tup, n_lst, n_int, n_str, n_bl, truD, lstAt, itemsD, forD, compD, turnF, turnC, kept_none, szOk, rg_nat, rangeL, at0, at1, at2, at3, at4, at5, at6, ix0, ix1, gc_same, gc_len, eq_int, eq_str, eq_bl, str_inj, str_beq, cut1, cut2, lr0, lr1, lr2, lr3, lr4, lr5, lr6, lr7, b0, Ty.d, eqA, eqA0, D.dataL, Ty.data, Ty.fits, hg, e1, k1]
    | _ => simp [runD, exSs, exS, evE, evT, evEs, evL, evI, evIfs, evAnd, evOr, evAndT, evOrT, startD, getV, putV, getO, putVs, putT, wipeE, idxD, sliceD, isAbs, partD, biD, one1, lenD, intD, absD, tupleD, max2D, maxD, maxI, intsD, isTD, tyD, isT, binD, cmpD, isD, n_non, n_tup, n_lst, n_int, n_str, n_bl, truD, lstAt, itemsD, forD, compD, turnF, turnC, kept_none, szOk, rg_nat, rangeL, at0, at1, at2, at3, at4, at5, at6, ix0, ix1, gc_same, gc_len, eq_int, eq_str, eq_bl, str_inj, str_beq, cut1, cut2, lr0, lr1, lr2, lr3, lr4, lr5, lr6, lr7, b0, Ty.d, eqA, eqA0, D.dataL, Ty.data, Ty.fits, hg]
theorem less_exact_ok (h : defs 1 = some fd1) (hg : P.glob 0 = some (.tup [.str "any"])) : ∀ (a b : Ty) {n : Nat} (S : Store), a.h ≤ n → callF P defs n 1 [a.d, b.d] S = some (.bl (a.le b), S)
  | t, b, 0, S, hn => by have := t.h_pos; omega
  | .any, b, n + 1, S, hn => by rw [callF_on h]; cases b <;> simp [runD, exSs, exS, evE, evT, evEs, evL, evI, evIfs, evAnd, evOr, evAndT, evOrT, startD, getV, putV, getO, putVs, putT, wipeE, idxD, sliceD, isAbs, partD, biD, one1, lenD, intD, absD, tupleD, max2D, maxD, maxI, intsD, isTD, tyD, isT, binD, cmpD, isD, n_non, n_tup, n_lst, n_int, n_str, n_bl, truD, lstAt, itemsD, forD, compD, turnF, turnC, kept_none, szOk, rg_nat, rangeL, at0, at1, at2, at3, at4, at5, at6, ix0, ix1, gc_same, gc_len, eq_int, eq_str, eq_bl, str_inj, str_beq, cut1, cut2, lr0, lr1, lr2, lr3, lr4, lr5, lr6, lr7, b1, Ty.d, eqA, eqA0, D.dataL, Ty.data, Ty.le, hg]
  | .int, b, n + 1, S, hn => by rw [callF_on h]; cases b <;> simp [runD, exSs, exS, evE, evT, evEs, evL, evI, evIfs, evAnd, evOr, evAndT, evOrT, startD, getV, putV, getO, putVs, putT, wipeE, idxD, sliceD, isAbs, partD, biD, one1, lenD, intD, absD, tupleD, max2D, maxD, maxI, intsD, isTD, tyD, isT, binD, cmpD, isD, n_non, n_tup, n_lst, n_int, n_str, n_bl, truD, lstAt, itemsD, forD, compD, turnF, turnC, kept_none, szOk, rg_nat, rangeL, at0, at1, at2, at3, at4, at5, at6, ix0, ix1, gc_same, gc_len, eq_int, eq_str, eq_bl, str_inj, str_beq, cut1, cut2, lr0, lr1, lr2, lr3, lr4, lr5, lr6, lr7, b1, Ty.d, eqA, eqA0, D.dataL, Ty.data, Ty.le, hg]
  | .bool, b, n + 1, S, hn => by rw [callF_on h]; cases b <;> simp [runD, exSs, exS, evE, evT, evEs, evL, evI, evIfs, evAnd, evOr, evAndT, evOrT, startD, getV, putV, getO, putVs, putT, wipeE, idxD, sliceD, isAbs, partD, biD, one1, lenD, intD, absD, tupleD, max2D, maxD, maxI, intsD, isTD, tyD, isT, binD, cmpD, isD, n_non, n_tup, n_lst, n_int, n_str, n_bl, truD, lstAt, itemsD, forD, compD, turnF, turnC, kept_none, szOk, rg_nat, rangeL, at0, at1, at2, at3, at4, at5, at6, ix0, ix1, gc_same, gc_len, eq_int, eq_str, eq_bl, str_inj, str_beq, cut1, cut2, lr0, lr1, lr2, lr3, lr4, lr5, lr6, lr7, b1, Ty.d, eqA, eqA0, D.dataL, Ty.data, Ty.le, hg]
  | .unit, b, n + 1, S, hn => by rw [callF_on h]; cases b <;> simp [runD, exSs, exS, evE, evT, evEs, evL, evI, evIfs, evAnd, evOr, evAndT, evOrT, startD, getV, putV, getO, putVs, putT, wipeE, idxD, sliceD, isAbs, partD, biD, one1, lenD, intD, absD, tupleD, max2D, maxD, maxI, intsD, isTD, tyD, isT, binD, cmpD, isD, n_non, n_tup, n_lst, n_int, n_str, n_bl, truD, lstAt, itemsD, forD, compD, turnF, turnC, kept_none, szOk, rg_nat, rangeL, at0, at1, at2, at3, at4, at5, at6, ix0, ix1, gc_same, gc_len, eq_int, eq_str, eq_bl, str_inj, str_beq, cut1, cut2, lr0, lr1, lr2, lr3, lr4, lr5, lr6, lr7, b1, Ty.d, eqA, eqA0, D.dataL, Ty.data, Ty.le, hg]
  | .fn a1 a2, b, n + 1, S, hn => by
    have e1 := fun b S => less_exact_ok h hg a1 b (n := n) S (by simp [Ty.h] at hn; omega)
    have e2 := fun b S => less_exact_ok h hg a2 b (n := n) S (by simp [Ty.h] at hn; omega)
    rw [callF_on h]
    cases b with
    | fn c1 c2 => cases k1 : a1.le c1 <;> cases k2 : a2.le c2 <;> simp [runD, exSs, exS, evE, evT, evEs, evL, evI, evIfs, evAnd, evOr, evAndT, evOrT, startD, getV, putV, getO, putVs, putT, wipeE, idxD, sliceD, isAbs, partD, biD, one1, lenD, intD, absD, tupleD, max2D, maxD, maxI, intsD, isTD, tyD, isT, binD, cmpD, isD, n_non, n_tup, n_lst, n_int, n_str, n_bl, truD, lstAt, itemsD, forD, compD, turnF, turnC, kept_none, szOk, rg_nat, rangeL, at0, at1, at2, at3, at4, at5, at6, ix0, ix1, gc_same, gc_len, eq_int, eq_str, eq_bl, str_inj, str_beq, cut1, cut2, lr0, lr1, lr2, lr3, lr4, lr5, lr6, lr7, b1, Ty.d, eqA, eqA0, D.dataL, Ty.data, Ty.le, hg, e1, e2, k1, k2]
    | _ => simp [runD, exSs, exS, evE, evT, evEs, evL, evI, evIfs, evAnd, evOr, evAndT, evOrT, startD, getV, putV, getO, putVs, putT, wipeE, idxD, sliceD, isAbs, partD, biD, one1, lenD, intD, absD, tupleD, max2D, maxD, maxI, intsD, isTD, tyD, isT, binD, cmpD, isD, n_non, n_tup, n_lst, n_int, n_str, n_bl, truD, lstAt, itemsD, forD, compD, turnF, turnC, kept_none, szOk, rg_nat, rangeL, at0, at1, at2, at3, at4, at5, at6, ix0, ix1, gc_same, gc_len, eq_int, eq_str, eq_bl, str_inj, str_beq, cut1, cut2, lr0, lr1, lr2, lr3, lr4, lr5, lr6, lr7, b1, Ty.d, eqA, eqA0, D.dataL, Ty.data, Ty.le, hg]
  | .pair a1 a2, b, n + 1, S, hn => by
    have e1 := fun b S => less_exact_ok h hg a1 b (n := n) S (by simp [Ty.h] at hn; omega)
    have e2 := fun b S => less_exact_ok h hg a2 b (n := n) S (by simp [Ty.h] at hn; omega)
    rw [callF_on h]
    cases b with
    | pair c1 c2 => cases k1 : a1.le c1 <;> cases k2 : a2.le c2 <;> simp [runD, exSs, exS, evE, evT, evEs, evL, evI, evIfs, evAnd, evOr, evAndT, evOrT, startD, getV, putV, getO, putVs, putT, wipeE, idxD, sliceD, isAbs, partD, biD, one1, lenD, intD, absD, tupleD, max2D, maxD, maxI, intsD, isTD, tyD, isT, binD, cmpD, isD, n_non, n_tup, n_lst, n_int, n_str, n_bl, truD, lstAt, itemsD, forD, compD, turnF, turnC, kept_none, szOk, rg_nat, rangeL, at0, at1, at2, at3, at4, at5, at6, ix0, ix1, gc_same, gc_len, eq_int, eq_str, eq_bl, str_inj, str_beq, cut1, cut2, lr0, lr1, lr2, lr3, lr4, lr5, lr6, lr7, b1, Ty.d, eqA, eqA0, D.dataL, Ty.data, Ty.le, hg, e1, e2, k1, k2]
    | _ => simp [runD, exSs, exS, evE, evT, evEs, evL, evI, evIfs, evAnd, evOr, evAndT, evOrT, startD, getV, putV, getO, putVs, putT, wipeE, idxD, sliceD, isAbs, partD, biD, one1, lenD, intD, absD, tupleD, max2D, maxD, maxI, intsD, isTD, tyD, isT, binD, cmpD, isD, n_non, n_tup, n_lst, n_int, n_str, n_bl, truD, lstAt, itemsD, forD, compD, turnF, turnC, kept_none, szOk, rg_nat, rangeL, at0, at1, at2, at3, at4, at5, at6, ix0, ix1, gc_same, gc_len, eq_int, eq_str, eq_bl, str_inj, str_beq, cut1, cut2, lr0, lr1, lr2, lr3, lr4, lr5, lr6, lr7, b1, Ty.d, eqA, eqA0, D.dataL, Ty.data, Ty.le, hg]
  | .box a1, b, n + 1, S, hn => by
    have e1 := fun b S => less_exact_ok h hg a1 b (n := n) S (by simp [Ty.h] at hn; omega)
    rw [callF_on h]
    cases b with
    | box c1 => cases k1 : a1.le c1 <;> simp [runD, exSs, exS, evE, evT, evEs, evL, evI, evIfs, evAnd, evOr, evAndT, evOrT, startD, getV, putV, getO, putVs, putT, wipeE, idxD, sliceD, isAbs, partD, biD, one1, lenD, intD, absD, tupleD, max2D, maxD, maxI, intsD, isTD, tyD, isT, binD, cmpD, isD, n_non, n_tup, n_lst, n_int, n_str, n_bl, truD, lstAt, itemsD, forD, compD, turnF, turnC, kept_none, szOk, rg_nat, rangeL, at0, at1, at2, at3, at4, at5, at6, ix0, ix1, gc_same, gc_len, eq_int, eq_str, eq_bl, str_inj, str_beq, cut1, cut2, lr0, lr1, lr2, lr3, lr4, lr5, lr6, lr7, b1, Ty.d, eqA, eqA0, D.dataL, Ty.data, Ty.le, hg, e1, k1]
    | _ => simp [runD, exSs, exS, evE, evT, evEs, evL, evI, evIfs, evAnd, evOr, evAndT, evOrT, startD, getV, putV, getO, putVs, putT, wipeE, idxD, sliceD, isAbs, partD, biD, one1, lenD, intD, absD, tupleD, max2D, maxD, maxI, intsD, isTD, tyD, isT, binD, cmpD, isD, n_non, n_tup, n_lst, n_int, n_str, n_bl, truD, lstAt, itemsD, forD, compD, turnF, turnC, kept_none, szOk, rg_nat, rangeL, at0, at1, at2, at3, at4, at5, at6, ix0, ix1, gc_same, gc_len, eq_int, eq_str, eq_bl, str_inj, str_beq, cut1, cut2, lr0, lr1, lr2, lr3, lr4, lr5, lr6, lr7, b1, Ty.d, eqA, eqA0, D.dataL, Ty.data, Ty.le, hg]
end
end HN

set_option maxHeartbeats 0
/-! repr of data: when there is one. -/
namespace HN
open PySem L2
def niceS (s : Str) : Bool := s.cps.toList.all (fun c => decide (c < 16 ^ 8)) && PyData.strOk (reprText s)
mutual
def D.nice : D → Bool
  | .non => true | .bl _ => true
  | .int i => decide (i.natAbs < 10 ^ 12)
  | .str s => niceS s
  | .tup l => D.niceL l
  | .lst l => D.niceL l
  | _ => false
def D.niceL : List D → Bool
  | [] => true
  | x :: xs => D.nice x && D.niceL xs
end
theorem ok_lit (s : String) : PyData.strOk (Str.ofString s) = true := by
  unfold PyData.strOk
  rw [Str.ofString_eq_toList, Array.all_eq_true_iff_forall_mem]
  intro x hx
  rw [List.mem_toArray] at hx
  obtain ⟨c, _, rfl⟩ := List.mem_map.mp hx
  have h := c.valid
  rw [decide_eq_true_eq]
  show c.val.toNat < 0x110000
  rcases h with h | h
  · exact Nat.lt_trans h (by decide)
  · exact h.2
theorem ok_app {a b : Str} (h1 : PyData.strOk a = true) (h2 : PyData.strOk b = true) : PyData.strOk (a ++ b) = true := by
  unfold PyData.strOk at *
  rw [Array.all_eq_true_iff_forall_mem] at *
  intro x hx
  have hx : x ∈ a.cps ++ b.cps := hx
  rcases Array.mem_append.mp hx with h | h
  · exact h1 x h
  · exact h2 x h
theorem ok_join : ∀ {ts : List Str}, (∀ t ∈ ts, PyData.strOk t = true) → PyData.strOk (Str.join ", " ts) = true
  | [], _ => by decide +kernel
  | [x], h => h x (by simp)
  | x :: y :: r, h => ok_app (ok_app (h x (by simp)) (ok_lit ", ")) (ok_join (ts := y :: r) fun t ht => h t (List.mem_cons_of_mem _ ht))
mutual
theorem shown_ok : ∀ d : D, D.data d = true → D.nice d = true → PyData.strOk (toPy d).shown = true ∧ (toPy d).showable = true ∧ (toPy d).leavesShort 13 = true
  | .non, _, _ => ⟨by show PyData.strOk (PyData.none).shown = true; rw [PyData.shown_none]; exact ok_lit _, rfl, rfl⟩
  | .bl b, _, _ => ⟨by
      show PyData.strOk (PyData.bool b).shown = true
      rw [PyData.shown_bool]
      cases b <;> exact ok_lit _, rfl, rfl⟩
  | .int i, _, h => by
    have h : i.natAbs < 10 ^ 12 := of_decide_eq_true h
    refine ⟨?_, ?_, ?_⟩
    · show PyData.strOk (PyData.int i).shown = true
      rw [PyData.shown_int]; exact ok_lit _
    · show decide (i.natAbs.log2 < 1920) = true
      rw [decide_eq_true_eq]
      by_cases z : i.natAbs = 0
      · rw [z]; decide
      · have := (Nat.log2_lt z).mpr (show i.natAbs < 2 ^ 1920 from Nat.lt_of_lt_of_le h (by decide +kernel))
        exact this
    · show decide ((PyData.shown (.int i)).length ≤ 13) = true
      exact decide_eq_true (PyData.shown_int_le h)
  | .str s, _, h => by
    obtain ⟨h1, h2⟩ := and2 (show (s.cps.toList.all (fun c => decide (c < 16 ^ 8)) && PyData.strOk (reprText s)) = true from h)
    refine ⟨?_, rfl, h1⟩
    show PyData.strOk (PyData.str s).shown = true
    rw [PyData.shown_str]; exact h2
  | .tup l, hd, h => by
    obtain ⟨h1, h2, h3⟩ := shown_okL l hd h
    refine ⟨?_, h2, h3⟩
    show PyData.strOk (PyData.tuple (toPyL l)).shown = true
    rw [PyData.shown_tuple]
    refine ok_app (ok_app (ok_lit _) (ok_join h1)) ?_
    split <;> exact ok_lit _
  | .lst l, hd, h => by
    obtain ⟨h1, h2, h3⟩ := shown_okL l hd h
    refine ⟨?_, h2, h3⟩
    show PyData.strOk (PyData.list (toPyL l)).shown = true
    rw [PyData.shown_list]
    exact ok_app (ok_app (ok_lit _) (ok_join h1)) (ok_lit _)
  | .scr _, h, _ => by cases h
  | .obj _ _, h, _ => by cases h
  | .ref _, h, _ => by cases h
  | .dic, h, _ => by cases h
theorem shown_okL : ∀ l : List D, D.dataL l = true → D.niceL l = true → (∀ t ∈ PyData.shownAll (toPyL l), PyData.strOk t = true) ∧ PyData.showableAll (toPyL l) = true ∧ PyData.leavesShortAll 13 (toPyL l) = true
  | [], _, _ => ⟨by intro t ht; simp [toPyL, PyData.shownAll] at ht, rfl, rfl⟩
  | x :: xs, hd, h => by
    obtain ⟨d1, d2⟩ := and2 (show (D.data x && D.dataL xs) = true from hd)
    obtain ⟨n1, n2⟩ := and2 (show (D.nice x && D.niceL xs) = true from h)
    obtain ⟨a1, a2, a3⟩ := shown_ok x d1 n1
    obtain ⟨b1, b2, b3⟩ := shown_okL xs d2 n2
    refine ⟨?_, ?_, ?_⟩
    · show ∀ t ∈ PyData.shownAll (toPy x :: toPyL xs), _
      rw [PyData.shownAll_cons]
      intro t ht
      rcases List.mem_cons.mp ht with rfl | ht
      · exact a1
      · exact b1 t ht
    · show (PyData.showable (toPy x) && PyData.showableAll (toPyL xs)) = true
      rw [a2, b2] <;> rfl
    · show (PyData.leavesShort 13 (toPy x) && PyData.leavesShortAll 13 (toPyL xs)) = true
      rw [a3, b3] <;> rfl
end
theorem repr_some {d : D} (h1 : D.data d = true) (h2 : D.dep d ≠ 0) (h3 : D.dep d ≤ 60) (h4 : D.nice d = true) (h5 : (toPy d).weight ≤ 2 ^ 20) : reprD d = some (.str (toPy d).shown) := by
  obtain ⟨a1, a2, a3⟩ := shown_ok d h1 h4
  have hl := PyData.shown_fits (B := 13) (by decide) (by decide) a3 h5
  rw [sizeLine_eq] at hl
  unfold reprD
  rw [if_pos]
  rw [h1, a1, a2, decide_eq_true h2, decide_eq_true h3]
  unfold szOk
  rw [decide_eq_true hl] <;> rfl
theorem int_wt {i : Int} (h : i.natAbs < 1000000) : (PyData.int i).weight ≤ 21 := by
  unfold PyData.weight
  split
  · omega
  · rename_i z
    have z' : i.natAbs ≠ 0 := by
      intro e
      apply z
      have : i = 0 := by omega
      subst this
      rfl
    have := (Nat.log2_lt (k := 20) z').mpr (by omega)
    omega
end HN

set_option maxHeartbeats 0
/-! Programs as trees, and the annotations in them (plain part). -/
namespace HN
open PySem L2
inductive U1 | fst | snd | box | get | not
inductive U2 | call | pair | put | print
def U1.s : U1 → Str
  | .fst => "fst" | .snd => "snd" | .box => "box" | .get => "get" | .not => "not"
def U2.s : U2 → Str
  | .call => "call" | .pair => "pair" | .put => "put" | .print => "print"
inductive Ex where
  | num (i : Int) | flag (b : Bool) | unit | name (s : Str)
  | fn (x : Str) (T : Ty) (e : Ex) | rc (f x : Str) (T U : Ty) (e : Ex) | as (e : Ex) (T : Ty)
  | bin (k : Bool) (s : Str) (a b : Ex) | cond (a b c : Ex) | un (h : U1) (a : Ex) | two (h : U2) (a b : Ex)
def Ex.d : Ex → D
  | .num i => .tup [.str "num", .int i]
  | .flag b => .tup [.str "flag", .bl b]
  | .unit => .tup [.str "unit"]
  | .name s => .tup [.str "name", .str s]
  | .fn x T e => .tup [.str "fun", .str x, T.d, e.d]
  | .rc f x T U e => .tup [.str "rec", .str f, .str x, T.d, U.d, e.d]
  | .as e T => .tup [.str "as", e.d, T.d]
  | .bin true s a b => .tup [.str "let", .str s, a.d, b.d]
  | .bin false s a b => .tup [.str "op", .str s, a.d, b.d]
  | .cond a b c => .tup [.str "if", a.d, b.d, c.d]
  | .un h a => .tup [.str h.s, a.d]
  | .two h a b => .tup [.str h.s, a.d, b.d]
theorem Ex.data (e : Ex) : D.data e.d = true := by
  induction e with
  | bin k s a b ha hb => cases k <;> simp [Ex.d, D.data, D.dataL, ha, hb]
  | _ => simp_all [Ex.d, D.data, D.dataL, Ty.data]
def Ex.kids : Ex → List Ex
  | .fn _ _ e => [e]
  | .rc _ _ _ _ e => [e]
  | .as e _ => [e]
  | .bin _ _ a b => [a, b]
  | .cond a b c => [a, b, c]
  | .un _ a => [a]
  | .two _ a b => [a, b]
  | _ => []
def Ex.own : Ex → List Ty
  | .fn _ T _ => [T]
  | .rc _ _ T U _ => [T, U]
  | .as _ T => [T]
  | _ => []
/-- how many expressions -/
def Ex.sz : Ex → Nat
  | .fn _ _ e => e.sz + 1
  | .rc _ _ _ _ e => e.sz + 1
  | .as e _ => e.sz + 1
  | .bin _ _ a b => a.sz + b.sz + 1
  | .cond a b c => a.sz + b.sz + c.sz + 1
  | .un _ a => a.sz + 1
  | .two _ a b => a.sz + b.sz + 1
  | _ => 1
def Ex.ht : Ex → Nat
  | .fn _ _ e => e.ht + 1
  | .rc _ _ _ _ e => e.ht + 1
  | .as e _ => e.ht + 1
  | .bin _ _ a b => max a.ht b.ht + 1
  | .cond a b c => max a.ht (max b.ht c.ht) + 1
  | .un _ a => a.ht + 1
  | .two _ a b => max a.ht b.ht + 1
  | _ => 1
def Ex.all : Ex → List Ex
  | .fn x T e => .fn x T e :: e.all
  | .rc f x T U e => .rc f x T U e :: e.all
  | .as e T => .as e T :: e.all
  | .bin k s a b => .bin k s a b :: (a.all ++ b.all)
  | .cond a b c => .cond a b c :: (a.all ++ (b.all ++ c.all))
  | .un h a => .un h a :: a.all
  | .two h a b => .two h a b :: (a.all ++ b.all)
  | e => [e]
def Ex.notes : Ex → List Ty
  | .fn _ T e => T :: e.notes
  | .rc _ _ T U e => T :: U :: e.notes
  | .as e T => T :: e.notes
  | .bin _ _ a b => a.notes ++ b.notes
  | .cond a b c => a.notes ++ (b.notes ++ c.notes)
  | .un _ a => a.notes
  | .two _ a b => a.notes ++ b.notes
  | _ => []
/-- other annotations, from the front of a list -/
def Ex.put : Ex → List Ty → Ex
  | .fn x T e, ts => .fn x (ts.headD T) (e.put ts.tail)
  | .rc f x T U e, ts => .rc f x (ts.headD T) (ts.tail.headD U) (e.put ts.tail.tail)
  | .as e T, ts => .as (e.put ts.tail) (ts.headD T)
  | .bin k s a b, ts => .bin k s (a.put ts) (b.put (ts.drop a.notes.length))
  | .cond a b c, ts => .cond (a.put ts) (b.put (ts.drop a.notes.length)) (c.put (ts.drop (a.notes.length + b.notes.length)))
  | .un h a, ts => .un h (a.put ts)
  | .two h a b, ts => .two h (a.put ts) (b.put (ts.drop a.notes.length))
  | e, _ => e
theorem Ex.all_eq (e : Ex) : e.all = e :: e.kids.flatMap Ex.all := by
  cases e <;> simp [Ex.all, Ex.kids]
theorem Ex.notes_eq (e : Ex) : e.notes = e.own ++ e.kids.flatMap Ex.notes := by
  cases e <;> simp [Ex.notes, Ex.kids, Ex.own]
theorem Ex.notes_all (e : Ex) : e.all.flatMap Ex.own = e.notes := by
  induction e <;> simp_all [Ex.notes, Ex.all, Ex.own, List.flatMap_cons, List.flatMap_append]
theorem Ex.all_len (e : Ex) : e.all.length = e.sz := by
  induction e <;> simp_all [Ex.all, Ex.sz] <;> omega
theorem Ex.notes_len (e : Ex) : e.notes.length ≤ 2 * e.sz := by
  induction e <;> simp_all [Ex.notes, Ex.sz] <;> omega
theorem Ex.sz_pos (e : Ex) : 1 ≤ e.sz := by cases e <;> simp [Ex.sz]
theorem Ex.ht_pos (e : Ex) : 1 ≤ e.ht := by cases e <;> simp [Ex.ht]
/-- the annotations that are put in are the ones that stand there -/
theorem Ex.notes_put : ∀ (e : Ex) (ts : List Ty), e.notes.length ≤ ts.length → (e.put ts).notes = ts.take e.notes.length
  | .num _, ts, h => by simp [Ex.put, Ex.notes]
  | .flag _, ts, h => by simp [Ex.put, Ex.notes]
  | .unit, ts, h => by simp [Ex.put, Ex.notes]
  | .name _, ts, h => by simp [Ex.put, Ex.notes]
  | .fn x T e, t :: ts, h => by
    simp only [Ex.notes, List.length_cons] at h
    simp [Ex.put, Ex.notes, Ex.notes_put e ts (by omega)]
  | .fn x T e, [], h => by simp [Ex.notes] at h
  | .as e T, t :: ts, h => by
    simp only [Ex.notes, List.length_cons] at h
    simp [Ex.put, Ex.notes, Ex.notes_put e ts (by omega)]
  | .as e T, [], h => by simp [Ex.notes] at h
  | .rc f x T U e, t :: u :: ts, h => by
    simp only [Ex.notes, List.length_cons] at h
    simp [Ex.put, Ex.notes, Ex.notes_put e ts (by omega)]
  | .rc f x T U e, [], h => by simp [Ex.notes] at h
  | .rc f x T U e, [_], h => by simp [Ex.notes] at h
  | .un k a, ts, h => by simp only [Ex.put, Ex.notes] at h ⊢; exact Ex.notes_put a ts h
  | .bin k s a b, ts, h => by
    simp only [Ex.notes, List.length_append] at h
    simp only [Ex.put, Ex.notes, List.length_append]
    rw [Ex.notes_put a ts (by omega), Ex.notes_put b _ (by rw [List.length_drop]; omega), List.take_add]
  | .two k a b, ts, h => by
    simp only [Ex.notes, List.length_append] at h
    simp only [Ex.put, Ex.notes, List.length_append]
    rw [Ex.notes_put a ts (by omega), Ex.notes_put b _ (by rw [List.length_drop]; omega), List.take_add]
  | .cond a b c, ts, h => by
    simp only [Ex.notes, List.length_append] at h
    simp only [Ex.put, Ex.notes, List.length_append]
    rw [Ex.notes_put a ts (by omega), Ex.notes_put b _ (by rw [List.length_drop]; omega), Ex.notes_put c _ (by rw [List.length_drop]; omega), List.take_add, List.take_add, List.drop_drop]
theorem Ex.put_notes : ∀ (e : Ex) (r : List Ty), e.put (e.notes ++ r) = e
  | .num _, r => rfl
  | .flag _, r => rfl
  | .unit, r => rfl
  | .name _, r => rfl
  | .fn x T e, r => by simp [Ex.put, Ex.notes, Ex.put_notes e r]
  | .as e T, r => by simp [Ex.put, Ex.notes, Ex.put_notes e r]
  | .rc f x T U e, r => by simp [Ex.put, Ex.notes, Ex.put_notes e r]
  | .un k a, r => by simp [Ex.put, Ex.notes, Ex.put_notes a r]
  | .bin k s a b, r => by
    simp only [Ex.put, Ex.notes, List.append_assoc]
    rw [Ex.put_notes a, List.drop_left, Ex.put_notes b]
  | .two k a b, r => by
    simp only [Ex.put, Ex.notes, List.append_assoc]
    rw [Ex.put_notes a, List.drop_left, Ex.put_notes b]
  | .cond a b c, r => by
    simp only [Ex.put, Ex.notes, List.append_assoc]
    rw [Ex.put_notes a, List.drop_left, Ex.put_notes b, ← List.drop_drop, List.drop_left, List.drop_left, Ex.put_notes c]
theorem Ex.put_sz : ∀ (e : Ex) (ts : List Ty), (e.put ts).sz = e.sz ∧ (e.put ts).ht = e.ht ∧ (e.put ts).notes.length = e.notes.length := by
  intro e
  induction e <;> intro ts <;> simp_all [Ex.put, Ex.sz, Ex.ht, Ex.notes]
/-- without its annotations -/
def Ex.bare : Ex → D
  | .num i => .tup [.str "num", .int i]
  | .flag b => .tup [.str "flag", .bl b]
  | .unit => .tup [.str "unit"]
  | .name s => .tup [.str "name", .str s]
  | .fn x _ e => .tup [.str "fun", .str x, e.bare]
  | .rc f x _ _ e => .tup [.str "rec", .str f, .str x, e.bare]
  | .as e _ => .tup [.str "as", e.bare]
  | .bin true s a b => .tup [.str "let", .str s, a.bare, b.bare]
  | .bin false s a b => .tup [.str "op", .str s, a.bare, b.bare]
  | .cond a b c => .tup [.str "if", a.bare, b.bare, c.bare]
  | .un h a => .tup [.str h.s, a.bare]
  | .two h a b => .tup [.str h.s, a.bare, b.bare]
theorem Ex.bare_put : ∀ (e : Ex) (ts : List Ty), (e.put ts).bare = e.bare := by
  intro e
  induction e with
  | bin k s a b ha hb => intro ts; cases k <;> simp_all [Ex.put, Ex.bare]
  | _ => intro ts; simp_all [Ex.put, Ex.bare]
theorem Ex.bare_data (e : Ex) : D.data e.bare = true := by
  induction e with
  | bin k s a b ha hb => cases k <;> simp [Ex.bare, D.data, D.dataL, ha, hb]
  | _ => simp_all [Ex.bare, D.data, D.dataL]
def Ty.hasAny : Ty → Bool
  | .any => true
  | .fn a b => a.hasAny || b.hasAny
  | .pair a b => a.hasAny || b.hasAny
  | .box a => a.hasAny
  | _ => false
end HN

set_option maxHeartbeats 0
/-! Programs: parts, annotations of their own. -/
namespace HN
open PySem L2
/-- parts -/
def b60 : Ss := (.cons (.set 1 (.idx (.var 0) (.int 0))) (.cons (.ite (.cmp .isIn (.var 1) (.tup (.cons (.str "num") (.cons (.str "flag") (.cons (.str "unit") (.cons (.str "name") .nil)))))) (.cons (.ret (.frz (.disp .nil))) .nil) .nil) (.cons (.ite (.cmp .eq (.var 1) (.str "as")) (.cons (.ret (.frz (.disp (.cons (.idx (.var 0) (.int 1)) .nil)))) .nil) .nil) (.cons (.ite (.cmp .isIn (.var 1) (.tup (.cons (.str "fun") (.cons (.str "rec") .nil)))) (.cons (.ret (.frz (.disp (.cons (.idx (.var 0) (.neg (.int 1))) .nil)))) .nil) .nil) (.cons (.ite (.cmp .isIn (.var 1) (.tup (.cons (.str "let") (.cons (.str "op") .nil)))) (.cons (.ret (.bi .list (.cons (.slice (.var 0) (.int 2) .absent) .nil))) .nil) .nil) (.cons (.ret (.bi .list (.cons (.slice (.var 0) (.int 1) .absent) .nil))) .nil))))))
abbrev fd60 : FD := ⟨1, 2, b60⟩
/-- own_annotations -/
def b62 : Ss := (.cons (.ite (.or (.cons (.cmp .eq (.idx (.var 0) (.int 0)) (.str "fun")) (.cons (.cmp .eq (.idx (.var 0) (.int 0)) (.str "as")) .nil))) (.cons (.ret (.frz (.disp (.cons (.idx (.var 0) (.int 2)) .nil)))) .nil) .nil) (.cons (.ite (.cmp .eq (.idx (.var 0) (.int 0)) (.str "rec")) (.cons (.ret (.frz (.disp (.cons (.idx (.var 0) (.int 3)) (.cons (.idx (.var 0) (.int 4)) .nil))))) .nil) .nil) (.cons (.ret (.frz (.disp .nil))) .nil)))
abbrev fd62 : FD := ⟨1, 1, b62⟩
/-- with_types -/
def b63 : Ss := (.cons (.ite (.cmp .eq (.idx (.var 0) (.int 0)) (.str "fun")) (.cons (.ret (.tup (.cons (.str "fun") (.cons (.idx (.var 0) (.int 1)) (.cons (.idx (.var 1) (.int 0)) (.cons (.idx (.var 0) (.int 3)) .nil)))))) .nil) .nil) (.cons (.ite (.cmp .eq (.idx (.var 0) (.int 0)) (.str "as")) (.cons (.ret (.tup (.cons (.str "as") (.cons (.idx (.var 0) (.int 1)) (.cons (.idx (.var 1) (.int 0)) .nil))))) .nil) .nil) (.cons (.ite (.cmp .eq (.idx (.var 0) (.int 0)) (.str "rec")) (.cons (.ret (.tup (.cons (.str "rec") (.cons (.idx (.var 0) (.int 1)) (.cons (.idx (.var 0) (.int 2)) (.cons (.idx (.var 1) (.int 0)) (.cons (.idx (.var 1) (.int 1)) (.cons (.idx (.var 0) (.int 5)) .nil)))))))) .nil) .nil) (.cons (.ret (.var 0)) .nil))))
abbrev fd63 : FD := ⟨2, 2, b63⟩
/-- with_parts -/
def b65 : Ss := (.cons (.set 2 (.idx (.var 0) (.int 0))) (.cons (.ite (.cmp .eq (.var 2) (.str "as")) (.cons (.ret (.tup (.cons (.str "as") (.cons (.idx (.var 1) (.int 0)) (.cons (.idx (.var 0) (.int 2)) .nil))))) .nil) .nil) (.cons (.ite (.cmp .isIn (.var 2) (.tup (.cons (.str "fun") (.cons (.str "rec") .nil)))) (.cons (.ret (.bin .add (.slice (.var 0) .absent (.neg (.int 1))) (.tup (.cons (.idx (.var 1) (.int 0)) .nil)))) .nil) .nil) (.cons (.ite (.cmp .isIn (.var 2) (.tup (.cons (.str "let") (.cons (.str "op") .nil)))) (.cons (.ret (.bin .add (.slice (.var 0) .absent (.int 2)) (.bi .tuple (.cons (.var 1) .nil)))) .nil) .nil) (.cons (.ret (.bin .add (.tup (.cons (.var 2) .nil)) (.bi .tuple (.cons (.var 1) .nil)))) .nil)))))
abbrev fd65 : FD := ⟨2, 3, b65⟩
/-- _law_parts -/
def b71 : Ss := (.cons (.set 1 (.idx (.var 0) (.int 0))) (.cons (.ite (.cmp .isIn (.var 1) (.frz (.disp (.cons (.str "num") (.cons (.str "flag") (.cons (.str "unit") (.cons (.str "name") .nil))))))) (.cons (.ret (.frz (.disp .nil))) .nil) .nil) (.cons (.ite (.cmp .eq (.var 1) (.str "fun")) (.cons (.ret (.frz (.disp (.cons (.idx (.var 0) (.int 3)) .nil)))) .nil) .nil) (.cons (.ite (.cmp .eq (.var 1) (.str "rec")) (.cons (.ret (.frz (.disp (.cons (.idx (.var 0) (.int 5)) .nil)))) .nil) .nil) (.cons (.ite (.cmp .eq (.var 1) (.str "as")) (.cons (.ret (.frz (.disp (.cons (.idx (.var 0) (.int 1)) .nil)))) .nil) .nil) (.cons (.ite (.cmp .isIn (.var 1) (.frz (.disp (.cons (.str "let") (.cons (.str "op") .nil))))) (.cons (.ret (.frz (.disp (.cons (.idx (.var 0) (.int 2)) (.cons (.idx (.var 0) (.int 3)) .nil))))) .nil) .nil) (.cons (.ret (.bi .list (.cons (.slice (.var 0) (.int 1) .absent) .nil))) .nil)))))))
abbrev fd71 : FD := ⟨1, 2, b71⟩
/-- has_any -/
def b68 : Ss := (.cons (.ite (.cmp .eq (.var 0) (.glob 0)) (.cons (.ret (.bl true)) .nil) .nil) (.cons (.forS [1] true (.e (.slice (.var 0) (.int 1) .absent)) (.cons (.ite (.call 68 (.cons (.var 1) .nil)) (.cons (.ret (.bl true)) .nil) .nil) .nil)) (.cons (.ret (.bl false)) .nil)))
abbrev fd68 : FD := ⟨1, 2, b68⟩
/-- _law_without_any -/
def b75 : Ss := (.cons (.ite (.cmp .eq (.idx (.var 0) (.int 0)) (.str "any")) (.cons (.ret (.bl false)) .nil) .nil) (.cons (.ret (.bi .all (.cons (.frz (.comp [1] true (.e (.slice (.var 0) (.int 1) .absent)) .nil (.call 75 (.cons (.var 1) .nil)))) .nil))) .nil))
abbrev fd75 : FD := ⟨1, 2, b75⟩
theorem in4 (s : String) : inD (.str s) [.str "num", .str "flag", .str "unit", .str "name"] = some (decide (s = "num") || (decide (s = "flag") || (decide (s = "unit") || decide (s = "name")))) := by
  simp [inD, D.data, D.dataL, D.dep, D.depL, D.eqv, str_beq, eq_comm]
theorem inFR (s : String) : inD (.str s) [.str "fun", .str "rec"] = some (decide (s = "fun") || decide (s = "rec")) := by
  simp [inD, D.data, D.dataL, D.dep, D.depL, D.eqv, str_beq, eq_comm]
theorem inLO (s : String) : inD (.str s) [.str "let", .str "op"] = some (decide (s = "let") || decide (s = "op")) := by
  simp [inD, D.data, D.dataL, D.dep, D.depL, D.eqv, str_beq, eq_comm]
theorem at_last4 {α : Type} (a b c d : α) : atI [a, b, c, d] (-1) = some d := rfl
theorem at_last6 {α : Type} (a b c d e f : α) : atI [a, b, c, d, e, f] (-1) = some f := rfl
theorem cutm1 {α : Type} (l : List α) (a : α) : cutD (l ++ [a]) none (some (-1)) = l := by
  unfold cutD HT.sIx
  have e : (-1 + ((l.length : Int) + 1)).toNat = l.length := by omega
  simp [e]
theorem cutp2 {α : Type} (a b : α) (l : List α) : cutD (a :: b :: l) none (some 2) = [a, b] := by
  unfold cutD HT.sIx
  simp
section
variable {P : Prg} {defs : Nat → Option FD}
theorem parts_run (h : defs 60 = some fd60) (e : Ex) {n : Nat} (S : Store) : callF P defs (n + 1) 60 [e.d] S = some (.lst (e.kids.map Ex.d), S) := by
  rw [callF_on h]
  cases e with
  | bin k s a b => cases k <;> simp [runD, exSs, exS, evE, evT, evEs, evL, evI, evIfs, evAnd, evOr, evAndT, evOrT, startD, getV, putV, getO, putVs, putT, wipeE, idxD, sliceD, isAbs, partD, biD, one1, lenD, intD, absD, tupleD, max2D, maxD, maxI, intsD, isTD, tyD, isT, binD, cmpD, isD, n_non, n_tup, n_lst, n_int, n_str, n_bl, truD, lstAt, itemsD, forD, compD, turnF, turnC, kept_none, szOk, rg_nat, rangeL, at0, at1, at2, at3, at4, at5, at6, ix0, ix1, gc_same, gc_len, eq_int, eq_str, eq_bl, str_inj, str_beq, cut1, cut2, lr0, lr1, lr2, lr3, lr4, lr5, lr6, lr7, b60, Ex.d, Ex.kids, in4, inFR, inLO, listD]
  | un k a => cases k <;> simp [runD, exSs, exS, evE, evT, evEs, evL, evI, evIfs, evAnd, evOr, evAndT, evOrT, startD, getV, putV, getO, putVs, putT, wipeE, idxD, sliceD, isAbs, partD, biD, one1, lenD, intD, absD, tupleD, max2D, maxD, maxI, intsD, isTD, tyD, isT, binD, cmpD, isD, n_non, n_tup, n_lst, n_int, n_str, n_bl, truD, lstAt, itemsD, forD, compD, turnF, turnC, kept_none, szOk, rg_nat, rangeL, at0, at1, at2, at3, at4, at5, at6, ix0, ix1, gc_same, gc_len, eq_int, eq_str, eq_bl, str_inj, str_beq, cut1, cut2, lr0, lr1, lr2, lr3, lr4, lr5, lr6, lr7, b60, Ex.d, Ex.kids, U1.s, in4, inFR, inLO, listD]
  | two k a b => cases k <;> simp [runD, exSs, exS, evE, evT, evEs, evL, evI, evIfs, evAnd, evOr, evAndT, evOrT, startD, getV, putV, getO, putVs, putT, wipeE, idxD, sliceD, isAbs, partD, biD, one1, lenD, intD, absD, tupleD, max2D, maxD, maxI, intsD, isTD, tyD, isT, binD, cmpD, isD, n_non, n_tup, n_lst, n_int, n_str, n_bl, truD, lstAt, itemsD, forD, compD, turnF, turnC, kept_none, szOk, rg_nat, rangeL, at0, at1, at2, at3, at4, at5, at6, ix0, ix1, gc_same, gc_len, eq_int, eq_str, eq_bl, str_inj, str_beq, cut1, cut2, lr0, lr1, lr2, lr3, lr4, lr5, lr6, lr7, b60, Ex.d, Ex.kids, U2.s, in4, inFR, inLO, listD]
  | _ => simp [runD, exSs, exS, evE, evT, evEs, evL, evI, evIfs, evAnd, evOr, evAndT, evOrT, startD, getV, putV, getO, putVs, putT, wipeE, idxD, sliceD, isAbs, partD, biD, one1, lenD, intD, absD, tupleD, max2D, maxD, maxI, intsD, isTD, tyD, isT, binD, cmpD, isD, n_non, n_tup, n_lst, n_int, n_str, n_bl, truD, lstAt, itemsD, forD, compD, turnF, turnC, kept_none, szOk, rg_nat, rangeL, at0, at1, at2, at3, at4, at5, at6, ix0, ix1, gc_same, gc_len, eq_int, eq_str, eq_bl, str_inj, str_beq, cut1, cut2, lr0, lr1, lr2, lr3, lr4, lr5, lr6, lr7, b60, Ex.d, Ex.kids, in4, inFR, inLO, listD, at_last4, at_last6]
theorem lparts_run (h : defs 71 = some fd71) (e : Ex) {n : Nat} (S : Store) : callF P defs (n + 1) 71 [e.d] S = some (.lst (e.kids.map Ex.d), S) := by
  rw [callF_on h]
  cases e with
  | bin k s a b => cases k <;> simp [runD, exSs, exS, evE, evT, evEs, evL, evI, evIfs, evAnd, evOr, evAndT, evOrT, startD, getV, putV, getO, putVs, putT, wipeE, idxD, sliceD, isAbs, partD, biD, one1, lenD, intD, absD, tupleD, max2D, maxD, maxI, intsD, isTD, tyD, isT, binD, cmpD, isD, n_non, n_tup, n_lst, n_int, n_str, n_bl, truD, lstAt, itemsD, forD, compD, turnF, turnC, kept_none, szOk, rg_nat, rangeL, at0, at1, at2, at3, at4, at5, at6, ix0, ix1, gc_same, gc_len, eq_int, eq_str, eq_bl, str_inj, str_beq, cut1, cut2, lr0, lr1, lr2, lr3, lr4, lr5, lr6, lr7, b71, Ex.d, Ex.kids, in4, inFR, inLO, listD]
  | un k a => cases k <;> simp [runD, exSs, exS, evE, evT, evEs, evL, evI, evIfs, evAnd, evOr, evAndT, evOrT, startD, getV, putV, getO, putVs, putT, wipeE, idxD, sliceD, isAbs, partD, biD, one1, lenD, intD, absD, tupleD, max2D, maxD, maxI, intsD, isTD, tyD, isT, binD, cmpD, isD, n_non, n_tup, n_lst, n_int, n_str, n_bl, truD, lstAt, itemsD, forD, compD, turnF, turnC, kept_none, szOk, rg_nat, rangeL, at0, at1, at2, at3, at4, at5, at6, ix0, ix1, gc_same, gc_len, eq_int, eq_str, eq_bl, str_inj, str_beq, cut1, cut2, lr0, lr1, lr2, lr3, lr4, lr5, lr6, lr7, b71, Ex.d, Ex.kids, U1.s, in4, inFR, inLO, listD]
  | two k a b => cases k <;> simp [runD, exSs, exS, evE, evT, evEs, evL, evI, evIfs, evAnd, evOr, evAndT, evOrT, startD, getV, putV, getO, putVs, putT, wipeE, idxD, sliceD, isAbs, partD, biD, one1, lenD, intD, absD, tupleD, max2D, maxD, maxI, intsD, isTD, tyD, isT, binD, cmpD, isD, n_non, n_tup, n_lst, n_int, n_str, n_bl, truD, lstAt, itemsD, forD, compD, turnF, turnC, kept_none, szOk, rg_nat, rangeL, at0, at1, at2, at3, at4, at5, at6, ix0, ix1, gc_same, gc_len, eq_int, eq_str, eq_bl, str_inj, str_beq, cut1, cut2, lr0, lr1, lr2, lr3, lr4, lr5, lr6, lr7, b71, Ex.d, Ex.kids, U2.s, in4, inFR, inLO, listD]
  | _ => simp [runD, exSs, exS, evE, evT, evEs, evL, evI, evIfs, evAnd, evOr, evAndT, evOrT, startD, getV, putV, getO, putVs, putT, wipeE, idxD, sliceD, isAbs, partD, biD, one1, lenD, intD, absD, tupleD, max2D, maxD, maxI, intsD, isTD, tyD, isT, binD, cmpD, isD, n_non, n_tup, n_lst, n_int, n_str, n_bl, truD, lstAt, itemsD, forD, compD, turnF, turnC, kept_none, szOk, rg_nat, rangeL, at0, at1, at2, at3, at4, at5, at6, ix0, ix1, gc_same, gc_len, eq_int, eq_str, eq_bl, str_inj, str_beq, cut1, cut2, lr0, lr1, lr2, lr3, lr4, lr5, lr6, lr7, b71, Ex.d, Ex.kids, in4, inFR, inLO, listD]
theorem own_run (h : defs 62 = some fd62) (e : Ex) {n : Nat} (S : Store) : callF P defs (n + 1) 62 [e.d] S = some (.lst (e.own.map Ty.d), S) := by
  rw [callF_on h]
  cases e with
  | bin k s a b => cases k <;> simp [runD, exSs, exS, evE, evT, evEs, evL, evI, evIfs, evAnd, evOr, evAndT, evOrT, startD, getV, putV, getO, putVs, putT, wipeE, idxD, sliceD, isAbs, partD, biD, one1, lenD, intD, absD, tupleD, max2D, maxD, maxI, intsD, isTD, tyD, isT, binD, cmpD, isD, n_non, n_tup, n_lst, n_int, n_str, n_bl, truD, lstAt, itemsD, forD, compD, turnF, turnC, kept_none, szOk, rg_nat, rangeL, at0, at1, at2, at3, at4, at5, at6, ix0, ix1, gc_same, gc_len, eq_int, eq_str, eq_bl, str_inj, str_beq, cut1, cut2, lr0, lr1, lr2, lr3, lr4, lr5, lr6, lr7, b62, Ex.d, Ex.own]
  | un k a => cases k <;> simp [runD, exSs, exS, evE, evT, evEs, evL, evI, evIfs, evAnd, evOr, evAndT, evOrT, startD, getV, putV, getO, putVs, putT, wipeE, idxD, sliceD, isAbs, partD, biD, one1, lenD, intD, absD, tupleD, max2D, maxD, maxI, intsD, isTD, tyD, isT, binD, cmpD, isD, n_non, n_tup, n_lst, n_int, n_str, n_bl, truD, lstAt, itemsD, forD, compD, turnF, turnC, kept_none, szOk, rg_nat, rangeL, at0, at1, at2, at3, at4, at5, at6, ix0, ix1, gc_same, gc_len, eq_int, eq_str, eq_bl, str_inj, str_beq, cut1, cut2, lr0, lr1, lr2, lr3, lr4, lr5, lr6, lr7, b62, Ex.d, Ex.own, U1.s]
  | two k a b => cases k <;> simp [runD, exSs, exS, evE, evT, evEs, evL, evI, evIfs, evAnd, evOr, evAndT, evOrT, startD, getV, putV, getO, putVs, putT, wipeE, idxD, sliceD, isAbs, partD, biD, one1, lenD, intD, absD, tupleD, max2D, maxD, maxI, intsD, isTD, tyD, isT, binD, cmpD, isD, n_non, n_tup, n_lst, n_int, n_str, n_bl, truD, lstAt, itemsD, forD, compD, turnF, turnC, kept_none, szOk, rg_nat, rangeL, at0, at1, at2, at3, at4, at5, at6, ix0, ix1, gc_same, gc_len, eq_int, eq_str, eq_bl, str_inj, str_beq, cut1, cut2, lr0, lr1, lr2, lr3, lr4, lr5, lr6, lr7, b62, Ex.d, Ex.own, U2.s]
  | _ => simp [runD, exSs, exS, evE, evT, evEs, evL, evI, evIfs, evAnd, evOr, evAndT, evOrT, startD, getV, putV, getO, putVs, putT, wipeE, idxD, sliceD, isAbs, partD, biD, one1, lenD, intD, absD, tupleD, max2D, maxD, maxI, intsD, isTD, tyD, isT, binD, cmpD, isD, n_non, n_tup, n_lst, n_int, n_str, n_bl, truD, lstAt, itemsD, forD, compD, turnF, turnC, kept_none, szOk, rg_nat, rangeL, at0, at1, at2, at3, at4, at5, at6, ix0, ix1, gc_same, gc_len, eq_int, eq_str, eq_bl, str_inj, str_beq, cut1, cut2, lr0, lr1, lr2, lr3, lr4, lr5, lr6, lr7, b62, Ex.d, Ex.own]
/-- its own annotations replaced -/
def Ex.wt : Ex → List Ty → Ex
  | .fn x T e, ts => .fn x (ts.headD T) e
  | .rc f x T U e, ts => .rc f x (ts.headD T) (ts.tail.headD U) e
  | .as e T, ts => .as e (ts.headD T)
  | e, _ => e
theorem wt_run (h : defs 63 = some fd63) (e : Ex) (ts : List Ty) (hl : ts.length = e.own.length) {n : Nat} (S : Store) : callF P defs (n + 1) 63 [e.d, .lst (ts.map Ty.d)] S = some ((e.wt ts).d, S) := by
  rw [callF_on h]
  cases e with
  | bin k s a b => cases k <;> simp [runD, exSs, exS, evE, evT, evEs, evL, evI, evIfs, evAnd, evOr, evAndT, evOrT, startD, getV, putV, getO, putVs, putT, wipeE, idxD, sliceD, isAbs, partD, biD, one1, lenD, intD, absD, tupleD, max2D, maxD, maxI, intsD, isTD, tyD, isT, binD, cmpD, isD, n_non, n_tup, n_lst, n_int, n_str, n_bl, truD, lstAt, itemsD, forD, compD, turnF, turnC, kept_none, szOk, rg_nat, rangeL, at0, at1, at2, at3, at4, at5, at6, ix0, ix1, gc_same, gc_len, eq_int, eq_str, eq_bl, str_inj, str_beq, cut1, cut2, lr0, lr1, lr2, lr3, lr4, lr5, lr6, lr7, b63, Ex.d, Ex.wt]
  | un k a => cases k <;> simp [runD, exSs, exS, evE, evT, evEs, evL, evI, evIfs, evAnd, evOr, evAndT, evOrT, startD, getV, putV, getO, putVs, putT, wipeE, idxD, sliceD, isAbs, partD, biD, one1, lenD, intD, absD, tupleD, max2D, maxD, maxI, intsD, isTD, tyD, isT, binD, cmpD, isD, n_non, n_tup, n_lst, n_int, n_str, n_bl, truD, lstAt, itemsD, forD, compD, turnF, turnC, kept_none, szOk, rg_nat, rangeL, at0, at1, at2, at3, at4, at5, at6, ix0, ix1, gc_same, gc_len, eq_int, eq_str, eq_bl, str_inj, str_beq, cut1, cut2, lr0, lr1, lr2, lr3, lr4, lr5, lr6, lr7, b63, Ex.d, Ex.wt, U1.s]
  | two k a b => cases k <;> simp [runD, exSs, exS, evE, evT, evEs, evL, evI, evIfs, evAnd, evOr, evAndT, evOrT, startD, getV, putV, getO, putVs, putT, wipeE, idxD, sliceD, isAbs, partD, biD, one1, lenD, intD, absD, tupleD, max2D, maxD, maxI, intsD, isTD, tyD, isT, binD, cmpD, isD, n_non, n_tup, n_lst, n_int, n_str, n_bl, truD, lstAt, itemsD, forD, compD, turnF, turnC, kept_none, szOk, rg_nat, rangeL, at0, at1, at2, at3, at4, at5, at6, ix0, ix1, gc_same, gc_len, eq_int, eq_str, eq_bl, str_inj, str_beq, cut1, cut2, lr0, lr1, lr2, lr3, lr4, lr5, lr6, lr7, b63, Ex.d, Ex.wt, U2.s]
  | fn x T e =>
    match ts, hl with
    | [t], _ => simp [runD, exSs, exS, evE, evT, evEs, evL, evI, evIfs, evAnd, evOr, evAndT, evOrT, startD, getV, putV, getO, putVs, putT, wipeE, idxD, sliceD, isAbs, partD, biD, one1, lenD, intD, absD, tupleD, max2D, maxD, maxI, intsD, isTD, tyD, isT, binD, cmpD, isD, n_non, n_tup, n_lst, n_int, n_str, n_bl, truD, lstAt, itemsD, forD, compD, turnF, turnC, kept_none, szOk, rg_nat, rangeL, at0, at1, at2, at3, at4, at5, at6, ix0, ix1, gc_same, gc_len, eq_int, eq_str, eq_bl, str_inj, str_beq, cut1, cut2, lr0, lr1, lr2, lr3, lr4, lr5, lr6, lr7, b63, Ex.d, Ex.wt]
  | as e T =>
    match ts, hl with
    | [t], _ => simp [runD, exSs, exS, evE, evT, evEs, evL, evI, evIfs, evAnd, evOr, evAndT, evOrT, startD, getV, putV, getO, putVs, putT, wipeE, idxD, sliceD, isAbs, partD, biD, one1, lenD, intD, absD, tupleD, max2D, maxD, maxI, intsD, isTD, tyD, isT, binD, cmpD, isD, n_non, n_tup, n_lst, n_int, n_str, n_bl, truD, lstAt, itemsD, forD, compD, turnF, turnC, kept_none, szOk, rg_nat, rangeL, at0, at1, at2, at3, at4, at5, at6, ix0, ix1, gc_same, gc_len, eq_int, eq_str, eq_bl, str_inj, str_beq, cut1, cut2, lr0, lr1, lr2, lr3, lr4, lr5, lr6, lr7, b63, Ex.d, Ex.wt]
  | rc f x T U e =>
    match ts, hl with
    | [t, u], _ => simp [runD, exSs, exS, evE, evT, evEs, evL, evI, evIfs, evAnd, evOr, evAndT, evOrT, startD, getV, putV, getO, putVs, putT, wipeE, idxD, sliceD, isAbs, partD, biD, one1, lenD, intD, absD, tupleD, max2D, maxD, maxI, intsD, isTD, tyD, isT, binD, cmpD, isD, n_non, n_tup, n_lst, n_int, n_str, n_bl, truD, lstAt, itemsD, forD, compD, turnF, turnC, kept_none, szOk, rg_nat, rangeL, at0, at1, at2, at3, at4, at5, at6, ix0, ix1, gc_same, gc_len, eq_int, eq_str, eq_bl, str_inj, str_beq, cut1, cut2, lr0, lr1, lr2, lr3, lr4, lr5, lr6, lr7, b63, Ex.d, Ex.wt]
  | _ => simp [runD, exSs, exS, evE, evT, evEs, evL, evI, evIfs, evAnd, evOr, evAndT, evOrT, startD, getV, putV, getO, putVs, putT, wipeE, idxD, sliceD, isAbs, partD, biD, one1, lenD, intD, absD, tupleD, max2D, maxD, maxI, intsD, isTD, tyD, isT, binD, cmpD, isD, n_non, n_tup, n_lst, n_int, n_str, n_bl, truD, lstAt, itemsD, forD, compD, turnF, turnC, kept_none, szOk, rg_nat, rangeL, at0, at1, at2, at3, at4, at5, at6, ix0, ix1, gc_same, gc_len, eq_int, eq_str, eq_bl, str_inj, str_beq, cut1, cut2, lr0, lr1, lr2, lr3, lr4, lr5, lr6, lr7, b63, Ex.d, Ex.wt]
/-- its parts replaced -/
def Ex.wp : Ex → List Ex → Ex
  | .fn x T _, [e] => .fn x T e
  | .rc f x T U _, [e] => .rc f x T U e
  | .as _ T, [e] => .as e T
  | .bin k s _ _, [a, b] => .bin k s a b
  | .cond _ _ _, [a, b, c] => .cond a b c
  | .un h _, [a] => .un h a
  | .two h _ _, [a, b] => .two h a b
  | e, _ => e
theorem cut3 {α : Type} (a b c d : α) : cutD [a, b, c, d] none (some (-1)) = [a, b, c] := cutm1 [a, b, c] d
theorem cut5 {α : Type} (a b c d e f : α) : cutD [a, b, c, d, e, f] none (some (-1)) = [a, b, c, d, e] := cutm1 [a, b, c, d, e] f
theorem wp_run (h : defs 65 = some fd65) (e : Ex) (ks : List Ex) (hl : ks.length = e.kids.length) (h0 : e.kids ≠ []) {n : Nat} (S : Store) : callF P defs (n + 1) 65 [e.d, .lst (ks.map Ex.d)] S = some ((e.wp ks).d, S) := by
  rw [callF_on h]
  cases e with
  | bin k s a b =>
    match ks, hl with
    | [x, y], _ => cases k <;> simp [runD, exSs, exS, evE, evT, evEs, evL, evI, evIfs, evAnd, evOr, evAndT, evOrT, startD, getV, putV, getO, putVs, putT, wipeE, idxD, sliceD, isAbs, partD, biD, one1, lenD, intD, absD, tupleD, max2D, maxD, maxI, intsD, isTD, tyD, isT, binD, cmpD, isD, n_non, n_tup, n_lst, n_int, n_str, n_bl, truD, lstAt, itemsD, forD, compD, turnF, turnC, kept_none, szOk, rg_nat, rangeL, at0, at1, at2, at3, at4, at5, at6, ix0, ix1, gc_same, gc_len, eq_int, eq_str, eq_bl, str_inj, str_beq, cut1, cut2, lr0, lr1, lr2, lr3, lr4, lr5, lr6, lr7, b65, Ex.d, Ex.wp, inFR, inLO, cutp2]
  | un k a =>
    match ks, hl with
    | [x], _ => cases k <;> simp [runD, exSs, exS, evE, evT, evEs, evL, evI, evIfs, evAnd, evOr, evAndT, evOrT, startD, getV, putV, getO, putVs, putT, wipeE, idxD, sliceD, isAbs, partD, biD, one1, lenD, intD, absD, tupleD, max2D, maxD, maxI, intsD, isTD, tyD, isT, binD, cmpD, isD, n_non, n_tup, n_lst, n_int, n_str, n_bl, truD, lstAt, itemsD, forD, compD, turnF, turnC, kept_none, szOk, rg_nat, rangeL, at0, at1, at2, at3, at4, at5, at6, ix0, ix1, gc_same, gc_len, eq_int, eq_str, eq_bl, str_inj, str_beq, cut1, cut2, lr0, lr1, lr2, lr3, lr4, lr5, lr6, lr7, b65, Ex.d, Ex.wp, U1.s, inFR, inLO]
  | two k a b =>
    match ks, hl with
    | [x, y], _ => cases k <;> simp [runD, exSs, exS, evE, evT, evEs, evL, evI, evIfs, evAnd, evOr, evAndT, evOrT, startD, getV, putV, getO, putVs, putT, wipeE, idxD, sliceD, isAbs, partD, biD, one1, lenD, intD, absD, tupleD, max2D, maxD, maxI, intsD, isTD, tyD, isT, binD, cmpD, isD, n_non, n_tup, n_lst, n_int, n_str, n_bl, truD, lstAt, itemsD, forD, compD, turnF, turnC, kept_none, szOk, rg_nat, rangeL, at0, at1, at2, at3, at4, at5, at6, ix0, ix1, gc_same, gc_len, eq_int, eq_str, eq_bl, str_inj, str_beq, cut1, cut2, lr0, lr1, lr2, lr3, lr4, lr5, lr6, lr7, b65, Ex.d, Ex.wp, U2.s, inFR, inLO]
  | cond a b c =>
    match ks, hl with
    | [x, y, z], _ => simp [runD, exSs, exS, evE, evT, evEs, evL, evI, evIfs, evAnd, evOr, evAndT, evOrT, startD, getV, putV, getO, putVs, putT, wipeE, idxD, sliceD, isAbs, partD, biD, one1, lenD, intD, absD, tupleD, max2D, maxD, maxI, intsD, isTD, tyD, isT, binD, cmpD, isD, n_non, n_tup, n_lst, n_int, n_str, n_bl, truD, lstAt, itemsD, forD, compD, turnF, turnC, kept_none, szOk, rg_nat, rangeL, at0, at1, at2, at3, at4, at5, at6, ix0, ix1, gc_same, gc_len, eq_int, eq_str, eq_bl, str_inj, str_beq, cut1, cut2, lr0, lr1, lr2, lr3, lr4, lr5, lr6, lr7, b65, Ex.d, Ex.wp, inFR, inLO]
  | fn _ T e =>
    match ks, hl with
    | [x], _ => simp [runD, exSs, exS, evE, evT, evEs, evL, evI, evIfs, evAnd, evOr, evAndT, evOrT, startD, getV, putV, getO, putVs, putT, wipeE, idxD, sliceD, isAbs, partD, biD, one1, lenD, intD, absD, tupleD, max2D, maxD, maxI, intsD, isTD, tyD, isT, binD, cmpD, isD, n_non, n_tup, n_lst, n_int, n_str, n_bl, truD, lstAt, itemsD, forD, compD, turnF, turnC, kept_none, szOk, rg_nat, rangeL, at0, at1, at2, at3, at4, at5, at6, ix0, ix1, gc_same, gc_len, eq_int, eq_str, eq_bl, str_inj, str_beq, cut1, cut2, lr0, lr1, lr2, lr3, lr4, lr5, lr6, lr7, b65, Ex.d, Ex.wp, inFR, inLO, cut3]
  | rc _ _ T U e =>
    match ks, hl with
    | [x], _ => simp [runD, exSs, exS, evE, evT, evEs, evL, evI, evIfs, evAnd, evOr, evAndT, evOrT, startD, getV, putV, getO, putVs, putT, wipeE, idxD, sliceD, isAbs, partD, biD, one1, lenD, intD, absD, tupleD, max2D, maxD, maxI, intsD, isTD, tyD, isT, binD, cmpD, isD, n_non, n_tup, n_lst, n_int, n_str, n_bl, truD, lstAt, itemsD, forD, compD, turnF, turnC, kept_none, szOk, rg_nat, rangeL, at0, at1, at2, at3, at4, at5, at6, ix0, ix1, gc_same, gc_len, eq_int, eq_str, eq_bl, str_inj, str_beq, cut1, cut2, lr0, lr1, lr2, lr3, lr4, lr5, lr6, lr7, b65, Ex.d, Ex.wp, inFR, inLO, cut5]
  | as e T =>
    match ks, hl with
    | [x], _ => simp [runD, exSs, exS, evE, evT, evEs, evL, evI, evIfs, evAnd, evOr, evAndT, evOrT, startD, getV, putV, getO, putVs, putT, wipeE, idxD, sliceD, isAbs, partD, biD, one1, lenD, intD, absD, tupleD, max2D, maxD, maxI, intsD, isTD, tyD, isT, binD, cmpD, isD, n_non, n_tup, n_lst, n_int, n_str, n_bl, truD, lstAt, itemsD, forD, compD, turnF, turnC, kept_none, szOk, rg_nat, rangeL, at0, at1, at2, at3, at4, at5, at6, ix0, ix1, gc_same, gc_len, eq_int, eq_str, eq_bl, str_inj, str_beq, cut1, cut2, lr0, lr1, lr2, lr3, lr4, lr5, lr6, lr7, b65, Ex.d, Ex.wp, inFR, inLO]
  | num _ => exact absurd rfl h0
  | flag _ => exact absurd rfl h0
  | unit => exact absurd rfl h0
  | name _ => exact absurd rfl h0
theorem hasany_run (hg : P.glob 0 = some (.tup [.str "any"])) (h : defs 68 = some fd68) : ∀ (t : Ty) {n : Nat} (S : Store), t.h ≤ n → callF P defs n 68 [t.d] S = some (.bl t.hasAny, S)
  | t, 0, S, hn => by have := t.h_pos; omega
  | t, n + 1, S, hn => by
    rw [callF_on h]
    cases t with
    | any => simp [runD, exSs, exS, evE, evT, evEs, evL, evI, evIfs, evAnd, evOr, evAndT, evOrT, startD, getV, putV, getO, putVs, putT, wipeE, idxD, sliceD, isAbs, partD, biD, one1, lenD, intD, absD, tupleD, max2D, maxD, maxI, intsD, isTD, tyD, isT, binD, cmpD, isD, n_non, n_tup, n_lst, n_int, n_str, n_bl, truD, lstAt, itemsD, forD, compD, turnF, turnC, kept_none, szOk, rg_nat, rangeL, at0, at1, at2, at3, at4, at5, at6, ix0, ix1, gc_same, gc_len, eq_int, eq_str, eq_bl, str_inj, str_beq, cut1, cut2, lr0, lr1, lr2, lr3, lr4, lr5, lr6, lr7, b68, Ty.d, Ty.hasAny, hg, eqA0]
    | int => simp [runD, exSs, exS, evE, evT, evEs, evL, evI, evIfs, evAnd, evOr, evAndT, evOrT, startD, getV, putV, getO, putVs, putT, wipeE, idxD, sliceD, isAbs, partD, biD, one1, lenD, intD, absD, tupleD, max2D, maxD, maxI, intsD, isTD, tyD, isT, binD, cmpD, isD, n_non, n_tup, n_lst, n_int, n_str, n_bl, truD, lstAt, itemsD, forD, compD, turnF, turnC, kept_none, szOk, rg_nat, rangeL, at0, at1, at2, at3, at4, at5, at6, ix0, ix1, gc_same, gc_len, eq_int, eq_str, eq_bl, str_inj, str_beq, cut1, cut2, lr0, lr1, lr2, lr3, lr4, lr5, lr6, lr7, b68, Ty.d, Ty.hasAny, hg, eqA0]
    | bool => simp [runD, exSs, exS, evE, evT, evEs, evL, evI, evIfs, evAnd, evOr, evAndT, evOrT, startD, getV, putV, getO, putVs, putT, wipeE, idxD, sliceD, isAbs, partD, biD, one1, lenD, intD, absD, tupleD, max2D, maxD, maxI, intsD, isTD, tyD, isT, binD, cmpD, isD, n_non, n_tup, n_lst, n_int, n_str, n_bl, truD, lstAt, itemsD, forD, compD, turnF, turnC, kept_none, szOk, rg_nat, rangeL, at0, at1, at2, at3, at4, at5, at6, ix0, ix1, gc_same, gc_len, eq_int, eq_str, eq_bl, str_inj, str_beq, cut1, cut2, lr0, lr1, lr2, lr3, lr4, lr5, lr6, lr7, b68, Ty.d, Ty.hasAny, hg, eqA0]
    | unit => simp [runD, exSs, exS, evE, evT, evEs, evL, evI, evIfs, evAnd, evOr, evAndT, evOrT, startD, getV, putV, getO, putVs, putT, wipeE, idxD, sliceD, isAbs, partD, biD, one1, lenD, intD, absD, tupleD, max2D, maxD, maxI, intsD, isTD, tyD, isT, binD, cmpD, isD, n_non, n_tup, n_lst, n_int, n_str, n_bl, truD, lstAt, itemsD, forD, compD, turnF, turnC, kept_none, szOk, rg_nat, rangeL, at0, at1, at2, at3, at4, at5, at6, ix0, ix1, gc_same, gc_len, eq_int, eq_str, eq_bl, str_inj, str_beq, cut1, cut2, lr0, lr1, lr2, lr3, lr4, lr5, lr6, lr7, b68, Ty.d, Ty.hasAny, hg, eqA0]
    | fn a b =>
      have e1 := hasany_run hg h a (n := n) S (by simp only [Ty.h] at hn; omega)
      have e2 := hasany_run hg h b (n := n) S (by simp only [Ty.h] at hn; omega)
      cases h1 : a.hasAny <;> cases h2 : b.hasAny <;> simp [runD, exSs, exS, evE, evT, evEs, evL, evI, evIfs, evAnd, evOr, evAndT, evOrT, startD, getV, putV, getO, putVs, putT, wipeE, idxD, sliceD, isAbs, partD, biD, one1, lenD, intD, absD, tupleD, max2D, maxD, maxI, intsD, isTD, tyD, isT, binD, cmpD, isD, n_non, n_tup, n_lst, n_int, n_str, n_bl, truD, lstAt, itemsD, forD, compD, turnF, turnC, kept_none, szOk, rg_nat, rangeL, at0, at1, at2, at3, at4, at5, at6, ix0, ix1, gc_same, gc_len, eq_int, eq_str, eq_bl, str_inj, str_beq, cut1, cut2, lr0, lr1, lr2, lr3, lr4, lr5, lr6, lr7, b68, Ty.d, Ty.hasAny, hg, eqA, D.dataL, D.data, Ty.data, e1, e2, h1, h2]
    | pair a b =>
      have e1 := hasany_run hg h a (n := n) S (by simp only [Ty.h] at hn; omega)
      have e2 := hasany_run hg h b (n := n) S (by simp only [Ty.h] at hn; omega)
      cases h1 : a.hasAny <;> cases h2 : b.hasAny <;> simp [runD, exSs, exS, evE, evT, evEs, evL, evI, evIfs, evAnd, evOr, evAndT, evOrT, startD, getV, putV, getO, putVs, putT, wipeE, idxD, sliceD, isAbs, partD, biD, one1, lenD, intD, absD, tupleD, max2D, maxD, maxI, intsD, isTD, tyD, isT, binD, cmpD, isD, n_non, n_tup, n_lst, n_int, n_str, n_bl, truD, lstAt, itemsD, forD, compD, turnF, turnC, kept_none, szOk, rg_nat, rangeL, at0, at1, at2, at3, at4, at5, at6, ix0, ix1, gc_same, gc_len, eq_int, eq_str, eq_bl, str_inj, str_beq, cut1, cut2, lr0, lr1, lr2, lr3, lr4, lr5, lr6, lr7, b68, Ty.d, Ty.hasAny, hg, eqA, D.dataL, D.data, Ty.data, e1, e2, h1, h2]
    | box a =>
      have e1 := hasany_run hg h a (n := n) S (by simp only [Ty.h] at hn; omega)
      cases h1 : a.hasAny <;> simp [runD, exSs, exS, evE, evT, evEs, evL, evI, evIfs, evAnd, evOr, evAndT, evOrT, startD, getV, putV, getO, putVs, putT, wipeE, idxD, sliceD, isAbs, partD, biD, one1, lenD, intD, absD, tupleD, max2D, maxD, maxI, intsD, isTD, tyD, isT, binD, cmpD, isD, n_non, n_tup, n_lst, n_int, n_str, n_bl, truD, lstAt, itemsD, forD, compD, turnF, turnC, kept_none, szOk, rg_nat, rangeL, at0, at1, at2, at3, at4, at5, at6, ix0, ix1, gc_same, gc_len, eq_int, eq_str, eq_bl, str_inj, str_beq, cut1, cut2, lr0, lr1, lr2, lr3, lr4, lr5, lr6, lr7, b68, Ty.d, Ty.hasAny, hg, eqA, D.dataL, D.data, Ty.data, e1, h1]
theorem without_run (h : defs 75 = some fd75) : ∀ (t : Ty) {n : Nat} (S : Store), t.h ≤ n → callF P defs n 75 [t.d] S = some (.bl (!t.hasAny), S)
  | t, 0, S, hn => by have := t.h_pos; omega
  | t, n + 1, S, hn => by
    rw [callF_on h]
    cases t with
    | any => simp [runD, exSs, exS, evE, evT, evEs, evL, evI, evIfs, evAnd, evOr, evAndT, evOrT, startD, getV, putV, getO, putVs, putT, wipeE, idxD, sliceD, isAbs, partD, biD, one1, lenD, intD, absD, tupleD, max2D, maxD, maxI, intsD, isTD, tyD, isT, binD, cmpD, isD, n_non, n_tup, n_lst, n_int, n_str, n_bl, truD, lstAt, itemsD, forD, compD, turnF, turnC, kept_none, szOk, rg_nat, rangeL, at0, at1, at2, at3, at4, at5, at6, ix0, ix1, gc_same, gc_len, eq_int, eq_str, eq_bl, str_inj, str_beq, cut1, cut2, lr0, lr1, lr2, lr3, lr4, lr5, lr6, lr7, b75, Ty.d, Ty.hasAny]
    | int => simp [runD, exSs, exS, evE, evT, evEs, evL, evI, evIfs, evAnd, evOr, evAndT, evOrT, startD, getV, putV, getO, putVs, putT, wipeE, idxD, sliceD, isAbs, partD, biD, one1, lenD, intD, absD, tupleD, max2D, maxD, maxI, intsD, isTD, tyD, isT, binD, cmpD, isD, n_non, n_tup, n_lst, n_int, n_str, n_bl, truD, lstAt, itemsD, forD, compD, turnF, turnC, kept_none, szOk, rg_nat, rangeL, at0, at1, at2, at3, at4, at5, at6, ix0, ix1, gc_same, gc_len, eq_int, eq_str, eq_bl, str_inj, str_beq, cut1, cut2, lr0, lr1, lr2, lr3, lr4, lr5, lr6, lr7, b75, Ty.d, Ty.hasAny, allD, boolsD]
    | bool => simp [runD, exSs, exS, evE, evT, evEs, evL, evI, evIfs, evAnd, evOr, evAndT, evOrT, startD, getV, putV, getO, putVs, putT, wipeE, idxD, sliceD, isAbs, partD, biD, one1, lenD, intD, absD, tupleD, max2D, maxD, maxI, intsD, isTD, tyD, isT, binD, cmpD, isD, n_non, n_tup, n_lst, n_int, n_str, n_bl, truD, lstAt, itemsD, forD, compD, turnF, turnC, kept_none, szOk, rg_nat, rangeL, at0, at1, at2, at3, at4, at5, at6, ix0, ix1, gc_same, gc_len, eq_int, eq_str, eq_bl, str_inj, str_beq, cut1, cut2, lr0, lr1, lr2, lr3, lr4, lr5, lr6, lr7, b75, Ty.d, Ty.hasAny, allD, boolsD]
    | unit => simp [runD, exSs, exS, evE, evT, evEs, evL, evI, evIfs, evAnd, evOr, evAndT, evOrT, startD, getV, putV, getO, putVs, putT, wipeE, idxD, sliceD, isAbs, partD, biD, one1, lenD, intD, absD, tupleD, max2D, maxD, maxI, intsD, isTD, tyD, isT, binD, cmpD, isD, n_non, n_tup, n_lst, n_int, n_str, n_bl, truD, lstAt, itemsD, forD, compD, turnF, turnC, kept_none, szOk, rg_nat, rangeL, at0, at1, at2, at3, at4, at5, at6, ix0, ix1, gc_same, gc_len, eq_int, eq_str, eq_bl, str_inj, str_beq, cut1, cut2, lr0, lr1, lr2, lr3, lr4, lr5, lr6, lr7, b75, Ty.d, Ty.hasAny, allD, boolsD]
    | fn a b =>
      have e1 := without_run h a (n := n) S (by simp only [Ty.h] at hn; omega)
      have e2 := without_run h b (n := n) S (by simp only [Ty.h] at hn; omega)
      simp [runD, exSs, exS, evE, evT, evEs, evL, evI, evIfs, evAnd, evOr, evAndT, evOrT, startD, getV, putV, getO, putVs, putT, wipeE, idxD, sliceD, isAbs, partD, biD, one1, lenD, intD, absD, tupleD, max2D, maxD, maxI, intsD, isTD, tyD, isT, binD, cmpD, isD, n_non, n_tup, n_lst, n_int, n_str, n_bl, truD, lstAt, itemsD, forD, compD, turnF, turnC, kept_none, szOk, rg_nat, rangeL, at0, at1, at2, at3, at4, at5, at6, ix0, ix1, gc_same, gc_len, eq_int, eq_str, eq_bl, str_inj, str_beq, cut1, cut2, lr0, lr1, lr2, lr3, lr4, lr5, lr6, lr7, b75, Ty.d, Ty.hasAny, allD, boolsD, e1, e2]
    | pair a b =>
      have e1 := without_run h a (n := n) S (by simp only [Ty.h] at hn; omega)
      have e2 := without_run h b (n := n) S (by simp only [Ty.h] at hn; omega)
      simp [runD, exSs, exS, evE, evT, evEs, evL, evI, evIfs, evAnd, evOr, evAndT, evOrT, startD, getV, putV, getO, putVs, putT, wipeE, idxD, sliceD, isAbs, partD, biD, one1, lenD, intD, absD, tupleD, max2D, maxD, maxI, intsD, isTD, tyD, isT, binD, cmpD, isD, n_non, n_tup, n_lst, n_int, n_str, n_bl, truD, lstAt, itemsD, forD, compD, turnF, turnC, kept_none, szOk, rg_nat, rangeL, at0, at1, at2, at3, at4, at5, at6, ix0, ix1, gc_same, gc_len, eq_int, eq_str, eq_bl, str_inj, str_beq, cut1, cut2, lr0, lr1, lr2, lr3, lr4, lr5, lr6, lr7, b75, Ty.d, Ty.hasAny, allD, boolsD, e1, e2]
    | box a =>
      have e1 := without_run h a (n := n) S (by simp only [Ty.h] at hn; omega)
      simp [runD, exSs, exS, evE, evT, evEs, evL, evI, evIfs, evAnd, evOr, evAndT, evOrT, startD, getV, putV, getO, putVs, putT, wipeE, idxD, sliceD, isAbs, partD, biD, one1, lenD, intD, absD, tupleD, max2D, maxD, maxI, intsD, isTD, tyD, isT, binD, cmpD, isD, n_non, n_tup, n_lst, n_int, n_str, n_bl, truD, lstAt, itemsD, forD, compD, turnF, turnC, kept_none, szOk, rg_nat, rangeL, at0, at1, at2, at3, at4, at5, at6, ix0, ix1, gc_same, gc_len, eq_int, eq_str, eq_bl, str_inj, str_beq, cut1, cut2, lr0, lr1, lr2, lr3, lr4, lr5, lr6, lr7, b75, Ty.d, Ty.hasAny, allD, boolsD, e1]
end
end HN

set_option maxHeartbeats 0
/-! Programs: all expressions, all annotations, annotations replaced. -/
namespace HN
open PySem L2
/-- numbered -/
def b61 : Ss := (.cons (.setOwn 1 (.disp .nil)) (.cons (.setOwn 2 (.disp (.cons (.var 0) .nil))) (.cons (.while (.truOwn 2) (.cons (.popOwn 3 2) (.cons (.appOwn 1 (.var 3)) (.cons (.extOwn 2 (.rev (.call 60 (.cons (.var 3) .nil)))) .nil)))) (.cons (.freeze 1) (.cons (.ret (.var 1)) .nil)))))
abbrev fd61 : FD := ⟨1, 4, b61⟩
/-- annotations -/
def b67 : Ss := (.cons (.setOwn 1 (.disp .nil)) (.cons (.forS [2] true (.e (.call 61 (.cons (.var 0) .nil))) (.cons (.extOwn 1 (.call 62 (.cons (.var 2) .nil))) .nil)) (.cons (.freeze 1) (.cons (.ret (.var 1)) .nil))))
abbrev fd67 : FD := ⟨1, 3, b67⟩
/-- rebuilt -/
def b64 : Ss := (.cons (.set 3 (.bi .len (.cons (.call 62 (.cons (.var 0) .nil)) .nil))) (.cons (.set 4 (.call 63 (.cons (.var 0) (.cons (.slice (.var 1) (.var 2) (.bin .add (.var 2) (.var 3))) .nil)))) (.cons (.aug 2 .add (.var 3)) (.cons (.setOwn 5 (.disp .nil)) (.cons (.forS [6] true (.e (.call 60 (.cons (.var 0) .nil))) (.cons (.setT [7, 2] (.call 64 (.cons (.var 6) (.cons (.var 1) (.cons (.var 2) .nil))))) (.cons (.appOwn 5 (.var 7)) .nil))) (.cons (.ite (.truOwn 5) (.cons (.freeze 5) (.cons (.set 4 (.call 65 (.cons (.var 4) (.cons (.var 5) .nil)))) .nil)) .nil) (.cons (.ret (.tup (.cons (.var 4) (.cons (.var 2) .nil)))) .nil)))))))
abbrev fd64 : FD := ⟨3, 8, b64⟩
/-- with_annotations -/
def b66 : Ss := (.cons (.ret (.idx (.call 64 (.cons (.var 0) (.cons (.bi .list (.cons (.var 1) .nil)) (.cons (.int 0) .nil)))) (.int 0))) .nil)
abbrev fd66 : FD := ⟨2, 2, b66⟩
/-- erased -/
def b77 : Ss := (.cons (.ret (.call 66 (.cons (.var 0) (.cons (.frz (.comp [1] true (.e (.call 67 (.cons (.var 0) .nil))) .nil (.glob 0))) .nil)))) .nil)
abbrev fd77 : FD := ⟨1, 2, b77⟩
/-- is_exact -/
def b76 : Ss := (.cons (.forS [1] true (.e (.call 67 (.cons (.var 0) .nil))) (.cons (.ite (.call 68 (.cons (.var 1) .nil)) (.cons (.ret (.bl false)) .nil) .nil) .nil)) (.cons (.ret (.bl true)) .nil))
abbrev fd76 : FD := ⟨1, 2, b76⟩
/-- _law_all -/
def b72 : Ss := (.cons (.set 1 (.frz (.disp (.cons (.var 0) .nil)))) (.cons (.forS [2] true (.e (.call 71 (.cons (.var 0) .nil))) (.cons (.set 1 (.bin .add (.var 1) (.call 72 (.cons (.var 2) .nil)))) .nil)) (.cons (.ret (.var 1)) .nil)))
abbrev fd72 : FD := ⟨1, 3, b72⟩
/-- _law_notes -/
def b73 : Ss := (.cons (.set 1 (.frz (.disp .nil))) (.cons (.ite (.or (.cons (.cmp .eq (.idx (.var 0) (.int 0)) (.str "fun")) (.cons (.cmp .eq (.idx (.var 0) (.int 0)) (.str "as")) .nil))) (.cons (.set 1 (.frz (.disp (.cons (.idx (.var 0) (.int 2)) .nil)))) .nil) .nil) (.cons (.ite (.cmp .eq (.idx (.var 0) (.int 0)) (.str "rec")) (.cons (.set 1 (.frz (.disp (.cons (.idx (.var 0) (.int 3)) (.cons (.idx (.var 0) (.int 4)) .nil))))) .nil) .nil) (.cons (.forS [2] true (.e (.call 71 (.cons (.var 0) .nil))) (.cons (.set 1 (.bin .add (.var 1) (.call 73 (.cons (.var 2) .nil)))) .nil)) (.cons (.ret (.var 1)) .nil)))))
abbrev fd73 : FD := ⟨1, 3, b73⟩
/-- _law_bare -/
def b74 : Ss := (.cons (.set 1 (.idx (.var 0) (.int 0))) (.cons (.ite (.cmp .eq (.var 1) (.str "fun")) (.cons (.ret (.tup (.cons (.str "fun") (.cons (.idx (.var 0) (.int 1)) (.cons (.call 74 (.cons (.idx (.var 0) (.int 3)) .nil)) .nil))))) .nil) .nil) (.cons (.ite (.cmp .eq (.var 1) (.str "rec")) (.cons (.ret (.tup (.cons (.str "rec") (.cons (.idx (.var 0) (.int 1)) (.cons (.idx (.var 0) (.int 2)) (.cons (.call 74 (.cons (.idx (.var 0) (.int 5)) .nil)) .nil)))))) .nil) .nil) (.cons (.ite (.cmp .eq (.var 1) (.str "as")) (.cons (.ret (.tup (.cons (.str "as") (.cons (.call 74 (.cons (.idx (.var 0) (.int 1)) .nil)) .nil)))) .nil) .nil) (.cons (.ite (.cmp .isIn (.var 1) (.frz (.disp (.cons (.str "let") (.cons (.str "op") .nil))))) (.cons (.ret (.tup (.cons (.var 1) (.cons (.idx (.var 0) (.int 1)) (.cons (.call 74 (.cons (.idx (.var 0) (.int 2)) .nil)) (.cons (.call 74 (.cons (.idx (.var 0) (.int 3)) .nil)) .nil)))))) .nil) .nil) (.cons (.ite (.cmp .isIn (.var 1) (.frz (.disp (.cons (.str "num") (.cons (.str "flag") (.cons (.str "unit") (.cons (.str "name") .nil))))))) (.cons (.ret (.var 0)) .nil) .nil) (.cons (.ret (.bin .add (.tup (.cons (.var 1) .nil)) (.bi .tuple (.cons (.frz (.comp [2] true (.e (.slice (.var 0) (.int 1) .absent)) .nil (.call 74 (.cons (.var 2) .nil)))) .nil)))) .nil)))))))
abbrev fd74 : FD := ⟨1, 3, b74⟩
theorem exS_nx {P : Prg} {c m : CallF} {s : St} {ss : Ss} {ρ ρ1 : HN.Env} {S S1 : Store} (h : exS P c m s ρ S = some (.nx ρ1 S1)) : exSs P c m (.cons s ss) ρ S = exSs P c m ss ρ1 S1 := by
  show (exS P c m s ρ S).bind _ = _
  rw [h] <;> rfl
theorem runD_end {P : Prg} {c m : CallF} {fd : FD} {ds : List D} {S : Store} {d : D} (hp : ds.length = fd.params) (h : exSs P c m fd.body (startD fd.slots ds) S = some (.rt d S)) : runD P c m fd ds S = some (d, S) := by
  unfold runD
  rw [if_pos hp, h]
  show some (gcD S (d, S)) = _
  rw [gc_same]
def accb (f : Nat) : Ss := (.cons (.set 1 (.bin .add (.var 1) (.call f (.cons (.var 2) .nil)))) .nil)
/-- for each part: the list so far and what f tells of the part -/
theorem acc_loop {P : Prg} {c mk : CallF} {α : Type} {f : Nat} {g : Ex → List α} {dd : α → D} {S : Store} {x : D} : ∀ {ks : List Ex} {acc : List α} {s2 : Slot}, (∀ k ∈ ks, c f [k.d] S = some (.lst ((g k).map dd), S)) → acc.length + (ks.flatMap g).length ≤ 16777216 →
    ∃ s2', forD (turnF true [2] none (exSs P c mk (accb f))) (ks.map Ex.d) [.val x, .val (.lst (acc.map dd)), s2] S = some (.nx [.val x, .val (.lst ((acc ++ ks.flatMap g).map dd)), s2'] S)
  | [], acc, s2, h, hl => ⟨s2, by simp [forD]⟩
  | k :: ks, acc, s2, h, hl => by
    simp only [List.flatMap_cons, List.length_append] at hl
    obtain ⟨s2', e2⟩ := acc_loop (P := P) (c := c) (mk := mk) (f := f) (g := g) (dd := dd) (S := S) (x := x) (ks := ks) (acc := acc ++ g k) (s2 := .val k.d) (fun j hj => h j (List.mem_cons_of_mem _ hj)) (by rw [List.length_append]; omega)
    refine ⟨s2', ?_⟩
    have e1 := h k List.mem_cons_self
    have hz : acc.length + (g k).length ≤ 16777216 := by omega
    show (turnF true [2] none (exSs P c mk (accb f)) k.d _ S).bind _ = _
    have et : turnF true [2] none (exSs P c mk (accb f)) k.d [.val x, .val (.lst (acc.map dd)), s2] S = some (.nx [.val x, .val (.lst ((acc ++ g k).map dd)), .val k.d] S) := by
      simp [turnF, putT, putV, exSs, exS, accb, evE, evEs, getV, e1, binD, szOk, hz, kept_none]
    rw [et]
    show forD _ _ _ _ = _
    rw [e2, List.flatMap_cons, List.append_assoc]
theorem Ex.kid_ht {e k : Ex} (h : k ∈ e.kids) : k.ht + 1 ≤ e.ht := by
  cases e <;> simp only [Ex.kids, List.mem_cons, List.not_mem_nil, or_false] at h
  all_goals first | (subst h; simp only [Ex.ht]; omega) | (rcases h with rfl | rfl <;> simp only [Ex.ht] <;> omega) | (rcases h with rfl | rfl | rfl <;> simp only [Ex.ht] <;> omega)
theorem Ex.kid_sz (e : Ex) : (e.kids.map Ex.sz).sum + 1 = e.sz := by
  cases e <;> simp [Ex.kids, Ex.sz] <;> omega
theorem sum_mem {l : List Nat} {x : Nat} (h : x ∈ l) : x ≤ l.sum := by
  induction l with
  | nil => simp at h
  | cons a l ih =>
    rw [List.sum_cons]
    rcases List.mem_cons.mp h with rfl | h
    · omega
    · have := ih h; omega
theorem Ex.kid_le {e k : Ex} (h : k ∈ e.kids) : k.sz ≤ e.sz := by
  have := sum_mem (List.mem_map_of_mem (f := Ex.sz) h)
  have := e.kid_sz
  omega
section
variable {P : Prg} {defs : Nat → Option FD}
theorem lall_run (h71 : defs 71 = some fd71) (h : defs 72 = some fd72) : ∀ (m : Nat) (e : Ex) {n : Nat} (S : Store), e.ht ≤ m → m + 1 ≤ n → e.sz ≤ 1000000 → callF P defs n 72 [e.d] S = some (.lst (e.all.map Ex.d), S)
  | 0, e, n, S, hm, hn, hz => by have := e.ht_pos; omega
  | m + 1, e, 0, S, hm, hn, hz => by omega
  | m + 1, e, 1, S, hm, hn, hz => by omega
  | m + 1, e, n + 2, S, hm, hn, hz => by
    have ih : ∀ k ∈ e.kids, callF P defs (n + 1) 72 [k.d] S = some (.lst (k.all.map Ex.d), S) := fun k hk => lall_run h71 h m k S (by have := Ex.kid_ht hk; omega) (by omega) (by have := Ex.kid_le hk; omega)
    have hp := lparts_run (P := P) h71 e (n := n) S
    have hl := e.all_len
    rw [Ex.all_eq] at hl
    obtain ⟨s2', ef⟩ := acc_loop (P := P) (c := callF P defs (n + 1)) (mk := (callP P defs (n + 1)).2) (f := 72) (g := Ex.all) (dd := Ex.d) (S := S) (x := e.d) (ks := e.kids) (acc := [e]) (s2 := .un) ih (by simp only [List.length_cons, List.length_nil] at hl ⊢; omega)
    rw [callF_on h]
    refine runD_end rfl ?_
    show exSs P _ _ (.cons (.set 1 (.frz (.disp (.cons (.var 0) .nil)))) (.cons (.forS [2] true (.e (.call 71 (.cons (.var 0) .nil))) (accb 72)) (.cons (.ret (.var 1)) .nil))) [.val e.d, .un, .un] S = _
    rw [exS_nx (ρ1 := [.val e.d, .val (.lst ([e].map Ex.d)), .un]) (S1 := S) (by simp [exS, evE, evL, evEs, getV, putV, szOk])]
    have ev : evI P (callF P defs (n + 1)) (callP P defs (n + 1)).2 (.e (.call 71 (.cons (.var 0) .nil))) [.val e.d, .val (.lst ([e].map Ex.d)), .un] S = some ((e.kids.map Ex.d, none), S) := by simp [evI, evE, evEs, getV, hp, itemsD]
    rw [exS_nx (ρ1 := [.val e.d, .val (.lst (([e] ++ e.kids.flatMap Ex.all).map Ex.d)), s2']) (S1 := S) (by simp only [exS, ev, Option.bind_some, ef])]
    rw [show [e] ++ e.kids.flatMap Ex.all = e.all from (Ex.all_eq e).symm]
    simp [exSs, exS, evE, getV]
theorem lnotes_run (h71 : defs 71 = some fd71) (h : defs 73 = some fd73) : ∀ (m : Nat) (e : Ex) {n : Nat} (S : Store), e.ht ≤ m → m + 1 ≤ n → e.sz ≤ 1000000 → callF P defs n 73 [e.d] S = some (.lst (e.notes.map Ty.d), S)
  | 0, e, n, S, hm, hn, hz => by have := e.ht_pos; omega
  | m + 1, e, 0, S, hm, hn, hz => by omega
  | m + 1, e, 1, S, hm, hn, hz => by omega
  | m + 1, e, n + 2, S, hm, hn, hz => by
    have ih : ∀ k ∈ e.kids, callF P defs (n + 1) 73 [k.d] S = some (.lst (k.notes.map Ty.d), S) := fun k hk => lnotes_run h71 h m k S (by have := Ex.kid_ht hk; omega) (by omega) (by have := Ex.kid_le hk; omega)
    have hp := lparts_run (P := P) h71 e (n := n) S
    have hl := e.notes_len
    rw [Ex.notes_eq, List.length_append] at hl
    obtain ⟨s2', ef⟩ := acc_loop (P := P) (c := callF P defs (n + 1)) (mk := (callP P defs (n + 1)).2) (f := 73) (g := Ex.notes) (dd := Ty.d) (S := S) (x := e.d) (ks := e.kids) (acc := e.own) (s2 := .un) ih (by omega)
    rw [callF_on h]
    refine runD_end rfl ?_
    have e3 : exSs P (callF P defs (n + 1)) (callP P defs (n + 1)).2 (b73.take 3) [.val e.d, .un, .un] S = some (.nx [.val e.d, .val (.lst (e.own.map Ty.d)), .un] S) := by
      cases e with
      | bin k s a b => cases k <;> simp [runD, exSs, exS, evE, evT, evEs, evL, evI, evIfs, evAnd, evOr, evAndT, evOrT, startD, getV, putV, getO, putVs, putT, wipeE, idxD, sliceD, isAbs, partD, biD, one1, lenD, intD, absD, tupleD, max2D, maxD, maxI, intsD, isTD, tyD, isT, binD, cmpD, isD, n_non, n_tup, n_lst, n_int, n_str, n_bl, truD, lstAt, itemsD, forD, compD, turnF, turnC, kept_none, szOk, rg_nat, rangeL, at0, at1, at2, at3, at4, at5, at6, ix0, ix1, gc_same, gc_len, eq_int, eq_str, eq_bl, str_inj, str_beq, cut1, cut2, lr0, lr1, lr2, lr3, lr4, lr5, lr6, lr7, b73, Ss.take, Ex.d, Ex.own]
      | un k a => cases k <;> simp [runD, exSs, exS, evE, evT, evEs, evL, evI, evIfs, evAnd, evOr, evAndT, evOrT, startD, getV, putV, getO, putVs, putT, wipeE, idxD, sliceD, isAbs, partD, biD, one1, lenD, intD, absD, tupleD, max2D, maxD, maxI, intsD, isTD, tyD, isT, binD, cmpD, isD, n_non, n_tup, n_lst, n_int, n_str, n_bl, truD, lstAt, itemsD, forD, compD, turnF, turnC, kept_none, szOk, rg_nat, rangeL, at0, at1, at2, at3, at4, at5, at6, ix0, ix1, gc_same, gc_len, eq_int, eq_str, eq_bl, str_inj, str_beq, cut1, cut2, lr0, lr1, lr2, lr3, lr4, lr5, lr6, lr7, b73, Ss.take, Ex.d, Ex.own, U1.s]
      | two k a b => cases k <;> simp [runD, exSs, exS, evE, evT, evEs, evL, evI, evIfs, evAnd, evOr, evAndT, evOrT, startD, getV, putV, getO, putVs, putT, wipeE, idxD, sliceD, isAbs, partD, biD, one1, lenD, intD, absD, tupleD, max2D, maxD, maxI, intsD, isTD, tyD, isT, binD, cmpD, isD, n_non, n_tup, n_lst, n_int, n_str, n_bl, truD, lstAt, itemsD, forD, compD, turnF, turnC, kept_none, szOk, rg_nat, rangeL, at0, at1, at2, at3, at4, at5, at6, ix0, ix1, gc_same, gc_len, eq_int, eq_str, eq_bl, str_inj, str_beq, cut1, cut2, lr0, lr1, lr2, lr3, lr4, lr5, lr6, lr7, b73, Ss.take, Ex.d, Ex.own, U2.s]
      | _ => simp [runD, exSs, exS, evE, evT, evEs, evL, evI, evIfs, evAnd, evOr, evAndT, evOrT, startD, getV, putV, getO, putVs, putT, wipeE, idxD, sliceD, isAbs, partD, biD, one1, lenD, intD, absD, tupleD, max2D, maxD, maxI, intsD, isTD, tyD, isT, binD, cmpD, isD, n_non, n_tup, n_lst, n_int, n_str, n_bl, truD, lstAt, itemsD, forD, compD, turnF, turnC, kept_none, szOk, rg_nat, rangeL, at0, at1, at2, at3, at4, at5, at6, ix0, ix1, gc_same, gc_len, eq_int, eq_str, eq_bl, str_inj, str_beq, cut1, cut2, lr0, lr1, lr2, lr3, lr4, lr5, lr6, lr7, b73, Ss.take, Ex.d, Ex.own]
    show exSs P _ _ b73 [.val e.d, .un, .un] S = _
    rw [exSs_at (k := 3) e3]
    show exSs P _ _ (.cons (.forS [2] true (.e (.call 71 (.cons (.var 0) .nil))) (accb 73)) (.cons (.ret (.var 1)) .nil)) _ S = _
    have ev : evI P (callF P defs (n + 1)) (callP P defs (n + 1)).2 (.e (.call 71 (.cons (.var 0) .nil))) [.val e.d, .val (.lst (e.own.map Ty.d)), .un] S = some ((e.kids.map Ex.d, none), S) := by simp [evI, evE, evEs, getV, hp, itemsD]
    rw [exS_nx (ρ1 := [.val e.d, .val (.lst ((e.own ++ e.kids.flatMap Ex.notes).map Ty.d)), s2']) (S1 := S) (by simp only [exS, ev, Option.bind_some, ef])]
    rw [← Ex.notes_eq]
    simp [exSs, exS, evE, getV]
theorem bare_run (h : defs 74 = some fd74) : ∀ (e : Ex) {n : Nat} (S : Store), e.ht ≤ n → callF P defs n 74 [e.d] S = some (e.bare, S)
  | e, 0, S, hn => by have := e.ht_pos; omega
  | e, n + 1, S, hn => by
    rw [callF_on h]
    cases e with
    | num i => simp [runD, exSs, exS, evE, evT, evEs, evL, evI, evIfs, evAnd, evOr, evAndT, evOrT, startD, getV, putV, getO, putVs, putT, wipeE, idxD, sliceD, isAbs, partD, biD, one1, lenD, intD, absD, tupleD, max2D, maxD, maxI, intsD, isTD, tyD, isT, binD, cmpD, isD, n_non, n_tup, n_lst, n_int, n_str, n_bl, truD, lstAt, itemsD, forD, compD, turnF, turnC, kept_none, szOk, rg_nat, rangeL, at0, at1, at2, at3, at4, at5, at6, ix0, ix1, gc_same, gc_len, eq_int, eq_str, eq_bl, str_inj, str_beq, cut1, cut2, lr0, lr1, lr2, lr3, lr4, lr5, lr6, lr7, b74, Ex.d, Ex.bare, in4, inLO]
    | flag b => simp [runD, exSs, exS, evE, evT, evEs, evL, evI, evIfs, evAnd, evOr, evAndT, evOrT, startD, getV, putV, getO, putVs, putT, wipeE, idxD, sliceD, isAbs, partD, biD, one1, lenD, intD, absD, tupleD, max2D, maxD, maxI, intsD, isTD, tyD, isT, binD, cmpD, isD, n_non, n_tup, n_lst, n_int, n_str, n_bl, truD, lstAt, itemsD, forD, compD, turnF, turnC, kept_none, szOk, rg_nat, rangeL, at0, at1, at2, at3, at4, at5, at6, ix0, ix1, gc_same, gc_len, eq_int, eq_str, eq_bl, str_inj, str_beq, cut1, cut2, lr0, lr1, lr2, lr3, lr4, lr5, lr6, lr7, b74, Ex.d, Ex.bare, in4, inLO]
    | unit => simp [runD, exSs, exS, evE, evT, evEs, evL, evI, evIfs, evAnd, evOr, evAndT, evOrT, startD, getV, putV, getO, putVs, putT, wipeE, idxD, sliceD, isAbs, partD, biD, one1, lenD, intD, absD, tupleD, max2D, maxD, maxI, intsD, isTD, tyD, isT, binD, cmpD, isD, n_non, n_tup, n_lst, n_int, n_str, n_bl, truD, lstAt, itemsD, forD, compD, turnF, turnC, kept_none, szOk, rg_nat, rangeL, at0, at1, at2, at3, at4, at5, at6, ix0, ix1, gc_same, gc_len, eq_int, eq_str, eq_bl, str_inj, str_beq, cut1, cut2, lr0, lr1, lr2, lr3, lr4, lr5, lr6, lr7, b74, Ex.d, Ex.bare, in4, inLO]
    | name s => simp [runD, exSs, exS, evE, evT, evEs, evL, evI, evIfs, evAnd, evOr, evAndT, evOrT, startD, getV, putV, getO, putVs, putT, wipeE, idxD, sliceD, isAbs, partD, biD, one1, lenD, intD, absD, tupleD, max2D, maxD, maxI, intsD, isTD, tyD, isT, binD, cmpD, isD, n_non, n_tup, n_lst, n_int, n_str, n_bl, truD, lstAt, itemsD, forD, compD, turnF, turnC, kept_none, szOk, rg_nat, rangeL, at0, at1, at2, at3, at4, at5, at6, ix0, ix1, gc_same, gc_len, eq_int, eq_str, eq_bl, str_inj, str_beq, cut1, cut2, lr0, lr1, lr2, lr3, lr4, lr5, lr6, lr7, b74, Ex.d, Ex.bare, in4, inLO]
    | fn x T e =>
      have e1 := bare_run h e (n := n) S (by simp only [Ex.ht] at hn; omega)
      simp [runD, exSs, exS, evE, evT, evEs, evL, evI, evIfs, evAnd, evOr, evAndT, evOrT, startD, getV, putV, getO, putVs, putT, wipeE, idxD, sliceD, isAbs, partD, biD, one1, lenD, intD, absD, tupleD, max2D, maxD, maxI, intsD, isTD, tyD, isT, binD, cmpD, isD, n_non, n_tup, n_lst, n_int, n_str, n_bl, truD, lstAt, itemsD, forD, compD, turnF, turnC, kept_none, szOk, rg_nat, rangeL, at0, at1, at2, at3, at4, at5, at6, ix0, ix1, gc_same, gc_len, eq_int, eq_str, eq_bl, str_inj, str_beq, cut1, cut2, lr0, lr1, lr2, lr3, lr4, lr5, lr6, lr7, b74, Ex.d, Ex.bare, in4, inLO, e1]
    | rc f x T U e =>
      have e1 := bare_run h e (n := n) S (by simp only [Ex.ht] at hn; omega)
      simp [runD, exSs, exS, evE, evT, evEs, evL, evI, evIfs, evAnd, evOr, evAndT, evOrT, startD, getV, putV, getO, putVs, putT, wipeE, idxD, sliceD, isAbs, partD, biD, one1, lenD, intD, absD, tupleD, max2D, maxD, maxI, intsD, isTD, tyD, isT, binD, cmpD, isD, n_non, n_tup, n_lst, n_int, n_str, n_bl, truD, lstAt, itemsD, forD, compD, turnF, turnC, kept_none, szOk, rg_nat, rangeL, at0, at1, at2, at3, at4, at5, at6, ix0, ix1, gc_same, gc_len, eq_int, eq_str, eq_bl, str_inj, str_beq, cut1, cut2, lr0, lr1, lr2, lr3, lr4, lr5, lr6, lr7, b74, Ex.d, Ex.bare, in4, inLO, e1]
    | as e T =>
      have e1 := bare_run h e (n := n) S (by simp only [Ex.ht] at hn; omega)
      simp [runD, exSs, exS, evE, evT, evEs, evL, evI, evIfs, evAnd, evOr, evAndT, evOrT, startD, getV, putV, getO, putVs, putT, wipeE, idxD, sliceD, isAbs, partD, biD, one1, lenD, intD, absD, tupleD, max2D, maxD, maxI, intsD, isTD, tyD, isT, binD, cmpD, isD, n_non, n_tup, n_lst, n_int, n_str, n_bl, truD, lstAt, itemsD, forD, compD, turnF, turnC, kept_none, szOk, rg_nat, rangeL, at0, at1, at2, at3, at4, at5, at6, ix0, ix1, gc_same, gc_len, eq_int, eq_str, eq_bl, str_inj, str_beq, cut1, cut2, lr0, lr1, lr2, lr3, lr4, lr5, lr6, lr7, b74, Ex.d, Ex.bare, in4, inLO, e1]
    | bin k s a b =>
      have e1 := bare_run h a (n := n) S (by simp only [Ex.ht] at hn; omega)
      have e2 := bare_run h b (n := n) S (by simp only [Ex.ht] at hn; omega)
      cases k <;> simp [runD, exSs, exS, evE, evT, evEs, evL, evI, evIfs, evAnd, evOr, evAndT, evOrT, startD, getV, putV, getO, putVs, putT, wipeE, idxD, sliceD, isAbs, partD, biD, one1, lenD, intD, absD, tupleD, max2D, maxD, maxI, intsD, isTD, tyD, isT, binD, cmpD, isD, n_non, n_tup, n_lst, n_int, n_str, n_bl, truD, lstAt, itemsD, forD, compD, turnF, turnC, kept_none, szOk, rg_nat, rangeL, at0, at1, at2, at3, at4, at5, at6, ix0, ix1, gc_same, gc_len, eq_int, eq_str, eq_bl, str_inj, str_beq, cut1, cut2, lr0, lr1, lr2, lr3, lr4, lr5, lr6, lr7, b74, Ex.d, Ex.bare, in4, inLO, e1, e2]
    | cond a b c =>
      have e1 := bare_run h a (n := n) S (by simp only [Ex.ht] at hn; omega)
      have e2 := bare_run h b (n := n) S (by simp only [Ex.ht] at hn; omega)
      have e3 := bare_run h c (n := n) S (by simp only [Ex.ht] at hn; omega)
      simp [runD, exSs, exS, evE, evT, evEs, evL, evI, evIfs, evAnd, evOr, evAndT, evOrT, startD, getV, putV, getO, putVs, putT, wipeE, idxD, sliceD, isAbs, partD, biD, one1, lenD, intD, absD, tupleD, max2D, maxD, maxI, intsD, isTD, tyD, isT, binD, cmpD, isD, n_non, n_tup, n_lst, n_int, n_str, n_bl, truD, lstAt, itemsD, forD, compD, turnF, turnC, kept_none, szOk, rg_nat, rangeL, at0, at1, at2, at3, at4, at5, at6, ix0, ix1, gc_same, gc_len, eq_int, eq_str, eq_bl, str_inj, str_beq, cut1, cut2, lr0, lr1, lr2, lr3, lr4, lr5, lr6, lr7, b74, Ex.d, Ex.bare, in4, inLO, e1, e2, e3]
    | un k a =>
      have e1 := bare_run h a (n := n) S (by simp only [Ex.ht] at hn; omega)
      cases k <;> simp [runD, exSs, exS, evE, evT, evEs, evL, evI, evIfs, evAnd, evOr, evAndT, evOrT, startD, getV, putV, getO, putVs, putT, wipeE, idxD, sliceD, isAbs, partD, biD, one1, lenD, intD, absD, tupleD, max2D, maxD, maxI, intsD, isTD, tyD, isT, binD, cmpD, isD, n_non, n_tup, n_lst, n_int, n_str, n_bl, truD, lstAt, itemsD, forD, compD, turnF, turnC, kept_none, szOk, rg_nat, rangeL, at0, at1, at2, at3, at4, at5, at6, ix0, ix1, gc_same, gc_len, eq_int, eq_str, eq_bl, str_inj, str_beq, cut1, cut2, lr0, lr1, lr2, lr3, lr4, lr5, lr6, lr7, b74, Ex.d, Ex.bare, U1.s, in4, inLO, e1]
    | two k a b =>
      have e1 := bare_run h a (n := n) S (by simp only [Ex.ht] at hn; omega)
      have e2 := bare_run h b (n := n) S (by simp only [Ex.ht] at hn; omega)
      cases k <;> simp [runD, exSs, exS, evE, evT, evEs, evL, evI, evIfs, evAnd, evOr, evAndT, evOrT, startD, getV, putV, getO, putVs, putT, wipeE, idxD, sliceD, isAbs, partD, biD, one1, lenD, intD, absD, tupleD, max2D, maxD, maxI, intsD, isTD, tyD, isT, binD, cmpD, isD, n_non, n_tup, n_lst, n_int, n_str, n_bl, truD, lstAt, itemsD, forD, compD, turnF, turnC, kept_none, szOk, rg_nat, rangeL, at0, at1, at2, at3, at4, at5, at6, ix0, ix1, gc_same, gc_len, eq_int, eq_str, eq_bl, str_inj, str_beq, cut1, cut2, lr0, lr1, lr2, lr3, lr4, lr5, lr6, lr7, b74, Ex.d, Ex.bare, U2.s, in4, inLO, e1, e2]
end
end HN

set_option maxHeartbeats 0
/-! Programs: numbered, annotations, rebuilt. -/
namespace HN
open PySem L2
/-- parts with other annotations, one behind another -/
def putL : List Ex → List Ty → List Ex
  | [], _ => []
  | k :: ks, ts => k.put ts :: putL ks (ts.drop k.notes.length)
def notL (ks : List Ex) : Nat := (ks.map fun k => k.notes.length).sum
theorem putL_len : ∀ (ks : List Ex) (ts : List Ty), (putL ks ts).length = ks.length
  | [], ts => rfl
  | k :: ks, ts => by simp [putL, putL_len ks]
theorem Ex.notes_cnt (e : Ex) : e.notes.length = e.own.length + notL e.kids := by
  cases e <;> simp [Ex.notes, Ex.own, Ex.kids, notL] <;> omega
theorem Ex.put_eq (e : Ex) (ts : List Ty) (h : e.own.length ≤ ts.length) : e.put ts = if e.kids = [] then e.wt (ts.take e.own.length) else (e.wt (ts.take e.own.length)).wp (putL e.kids (ts.drop e.own.length)) := by
  cases e with
  | fn x T e =>
    match ts, h with
    | t :: ts, _ => simp [Ex.put, Ex.kids, Ex.own, Ex.wt, Ex.wp, putL]
  | as e T =>
    match ts, h with
    | t :: ts, _ => simp [Ex.put, Ex.kids, Ex.own, Ex.wt, Ex.wp, putL]
  | rc f x T U e =>
    match ts, h with
    | t :: u :: ts, _ => simp [Ex.put, Ex.kids, Ex.own, Ex.wt, Ex.wp, putL]
  | cond a b c => simp [Ex.put, Ex.kids, Ex.own, Ex.wt, Ex.wp, putL]
  | _ => simp [Ex.put, Ex.kids, Ex.own, Ex.wt, Ex.wp, putL]
theorem Ex.wt_kids (e : Ex) (ts : List Ty) : (e.wt ts).kids = e.kids := by cases e <;> rfl
theorem cut_mid {α : Type} (l : List α) (a b : Nat) (h : a + b ≤ l.length) : cutD l (some (a : Int)) (some ((a : Int) + (b : Int))) = (l.drop a).take b := by
  unfold cutD
  have e1 : HT.sIx l.length 0 (some (a : Int)) = a := by rw [HT.sIx_nat]; omega
  have e2 : HT.sIx l.length l.length (some ((a : Int) + (b : Int))) = a + b := by
    rw [show ((a : Int) + (b : Int)) = ((a + b : Nat) : Int) by omega, HT.sIx_nat]; omega
  rw [e1, e2]
  congr 1
  omega
section
variable {P : Prg} {defs : Nat → Option FD}
def rbb : Ss := (.cons (.setT [7, 2] (.call 64 (.cons (.var 6) (.cons (.var 1) (.cons (.var 2) .nil))))) (.cons (.appOwn 5 (.var 7)) .nil))
theorem rb_loop {c mk : CallF} {S : Store} {x0 x3 x4 : Slot} {ts : List Ty} : ∀ (ks : List Ex) (st : Nat) (acc : List Ex) {s6 s7 : Slot},
    (∀ k ∈ ks, ∀ st : Nat, st + k.notes.length ≤ ts.length → c 64 [k.d, .lst (ts.map Ty.d), .int st] S = some (.tup [(k.put (ts.drop st)).d, .int (st + k.notes.length)], S)) → st + notL ks ≤ ts.length → acc.length + ks.length ≤ 1000 →
    ∃ s6' s7', forD (turnF true [6] none (exSs P c mk rbb)) (ks.map Ex.d) [x0, .val (.lst (ts.map Ty.d)), .val (.int st), x3, x4, .own (acc.map Ex.d), s6, s7] S = some (.nx [x0, .val (.lst (ts.map Ty.d)), .val (.int (st + notL ks)), x3, x4, .own ((acc ++ putL ks (ts.drop st)).map Ex.d), s6', s7'] S)
  | [], st, acc, s6, s7, h, hs, hl => ⟨s6, s7, by simp [forD, putL, notL]⟩
  | k :: ks, st, acc, s6, s7, h, hs, hl => by
    have hn : notL (k :: ks) = k.notes.length + notL ks := by simp [notL]
    rw [hn] at hs
    obtain ⟨s6', s7', e2⟩ := rb_loop (c := c) (mk := mk) (S := S) (x0 := x0) (x3 := x3) (x4 := x4) (ts := ts) ks (st + k.notes.length) (acc ++ [k.put (ts.drop st)]) (s6 := .val k.d) (s7 := .val (k.put (ts.drop st)).d) (fun j hj => h j (List.mem_cons_of_mem _ hj)) (by omega) (by simp at hl ⊢; omega)
    refine ⟨s6', s7', ?_⟩
    have e1 := h k List.mem_cons_self st (by omega)
    have hz : (acc.map Ex.d).length < 16777216 := by simp at hl ⊢; omega
    show (turnF true [6] none (exSs P c mk rbb) k.d _ S).bind _ = _
    have et : turnF true [6] none (exSs P c mk rbb) k.d [x0, .val (.lst (ts.map Ty.d)), .val (.int st), x3, x4, .own (acc.map Ex.d), s6, s7] S = some (.nx [x0, .val (.lst (ts.map Ty.d)), .val (.int ((st + k.notes.length : Nat) : Int)), x3, x4, .own ((acc ++ [k.put (ts.drop st)]).map Ex.d), .val k.d, .val (k.put (ts.drop st)).d] S) := by
      rw [show (acc ++ [k.put (ts.drop st)]).map Ex.d = acc.map Ex.d ++ [(k.put (ts.drop st)).d] by simp]
      generalize acc.map Ex.d = A at hz ⊢
      generalize ts.map Ty.d = Z at e1 ⊢
      simp [turnF, putT, putV, putVs, getO, exSs, exS, rbb, evE, evEs, getV, e1, hz, kept_none]
    rw [et]
    show forD _ _ _ _ = _
    rw [e2, hn]
    congr 4
    · congr 2
      · show D.int _ = D.int _
        congr 1
        omega
      · simp [putL, List.drop_drop]
theorem rb_run (h60 : defs 60 = some fd60) (h62 : defs 62 = some fd62) (h63 : defs 63 = some fd63) (h65 : defs 65 = some fd65) (h : defs 64 = some fd64) (ts : List Ty) : ∀ (m : Nat) (e : Ex) {n : Nat} (st : Nat) (S : Store), e.ht ≤ m → m + 1 ≤ n → st + e.notes.length ≤ ts.length →
    callF P defs n 64 [e.d, .lst (ts.map Ty.d), .int st] S = some (.tup [(e.put (ts.drop st)).d, .int (st + e.notes.length)], S)
  | 0, e, n, st, S, hm, hn, hs => by have := e.ht_pos; omega
  | m + 1, e, 0, st, S, hm, hn, hs => by omega
  | m + 1, e, 1, st, S, hm, hn, hs => by omega
  | m + 1, e, n + 2, st, S, hm, hn, hs => by
    have cn := e.notes_cnt
    have ih : ∀ k ∈ e.kids, ∀ st : Nat, st + k.notes.length ≤ ts.length → callF P defs (n + 1) 64 [k.d, .lst (ts.map Ty.d), .int st] S = some (.tup [(k.put (ts.drop st)).d, .int (st + k.notes.length)], S) := fun k hk st q => rb_run h60 h62 h63 h65 h ts m k st S (by have := Ex.kid_ht hk; omega) (by omega) q
    have p1 := own_run (P := P) h62 e (n := n) S
    have p2 := parts_run (P := P) h60 e (n := n) S
    have hc := cut_mid (ts.map Ty.d) st e.own.length (by rw [List.length_map]; omega)
    have hc2 : ((ts.map Ty.d).drop st).take e.own.length = ((ts.drop st).take e.own.length).map Ty.d := by simp
    rw [hc2] at hc
    have p3 := wt_run (P := P) h63 e ((ts.drop st).take e.own.length) (by rw [List.length_take, List.length_drop]; omega) (n := n) S
    have hk3 : e.kids.length ≤ 3 := by cases e <;> simp [Ex.kids]
    obtain ⟨s6', s7', ef⟩ := rb_loop (P := P) (c := callF P defs (n + 1)) (mk := (callP P defs (n + 1)).2) (S := S) (x0 := .val e.d) (x3 := .val (.int e.own.length)) (x4 := .val (e.wt ((ts.drop st).take e.own.length)).d) (ts := ts) e.kids (st + e.own.length) [] (s6 := .un) (s7 := .un) ih (by omega) (by simp; omega)
    rw [callF_on h]
    refine runD_end rfl ?_
    show exSs P _ _ (.cons (.set 3 (.bi .len (.cons (.call 62 (.cons (.var 0) .nil)) .nil))) (.cons (.set 4 (.call 63 (.cons (.var 0) (.cons (.slice (.var 1) (.var 2) (.bin .add (.var 2) (.var 3))) .nil)))) (.cons (.aug 2 .add (.var 3)) (.cons (.setOwn 5 (.disp .nil)) (.cons (.forS [6] true (.e (.call 60 (.cons (.var 0) .nil))) rbb) (.cons (.ite (.truOwn 5) (.cons (.freeze 5) (.cons (.set 4 (.call 65 (.cons (.var 4) (.cons (.var 5) .nil)))) .nil)) .nil) (.cons (.ret (.tup (.cons (.var 4) (.cons (.var 2) .nil)))) .nil))))))) [.val e.d, .val (.lst (ts.map Ty.d)), .val (.int st), .un, .un, .un, .un, .un] S = _
    rw [exS_nx (ρ1 := [.val e.d, .val (.lst (ts.map Ty.d)), .val (.int st), .val (.int e.own.length), .un, .un, .un, .un]) (S1 := S) (by simp [exS, evE, evEs, getV, putV, p1, biD, one1, lenD])]
    generalize hw : e.wt ((ts.drop st).take e.own.length) = W at p3 ef
    rw [exS_nx (ρ1 := [.val e.d, .val (.lst (ts.map Ty.d)), .val (.int st), .val (.int e.own.length), .val W.d, .un, .un, .un]) (S1 := S) (by
      generalize ts.map Ty.d = Z at hc ⊢
      simp [exS, evE, evEs, getV, putV, binD, isAbs, partD, sliceD, hc]
      simp at p3
      simp [p3])]
    rw [exS_nx (ρ1 := [.val e.d, .val (.lst (ts.map Ty.d)), .val (.int ((st + e.own.length : Nat) : Int)), .val (.int e.own.length), .val W.d, .un, .un, .un]) (S1 := S) (by simp [exS, evE, getV, putV, augD])]
    rw [exS_nx (ρ1 := [.val e.d, .val (.lst (ts.map Ty.d)), .val (.int ((st + e.own.length : Nat) : Int)), .val (.int e.own.length), .val W.d, .own [], .un, .un]) (S1 := S) (by simp [exS, evL, evEs, szOk])]
    have ev : evI P (callF P defs (n + 1)) (callP P defs (n + 1)).2 (.e (.call 60 (.cons (.var 0) .nil))) [.val e.d, .val (.lst (ts.map Ty.d)), .val (.int ((st + e.own.length : Nat) : Int)), .val (.int e.own.length), .val W.d, .own [], .un, .un] S = some ((e.kids.map Ex.d, none), S) := by simp [evI, evE, evEs, getV, p2, itemsD]
    have ef' : forD (turnF true [6] none (exSs P (callF P defs (n + 1)) (callP P defs (n + 1)).2 rbb)) (e.kids.map Ex.d) [.val e.d, .val (.lst (ts.map Ty.d)), .val (.int ((st + e.own.length : Nat) : Int)), .val (.int e.own.length), .val W.d, .own [], .un, .un] S = some (.nx [.val e.d, .val (.lst (ts.map Ty.d)), .val (.int (((st + e.own.length : Nat) : Int) + (notL e.kids : Int))), .val (.int e.own.length), .val W.d, .own ((putL e.kids (ts.drop (st + e.own.length))).map Ex.d), s6', s7'] S) := ef
    rw [exS_nx (ρ1 := [.val e.d, .val (.lst (ts.map Ty.d)), .val (.int (((st + e.own.length : Nat) : Int) + (notL e.kids : Int))), .val (.int e.own.length), .val W.d, .own ((putL e.kids (ts.drop (st + e.own.length))).map Ex.d), s6', s7']) (S1 := S) (by simp only [exS, ev, Option.bind_some, ef'])]
    have hi : (((st + e.own.length : Nat) : Int) + (notL e.kids : Int)) = (st : Int) + (e.notes.length : Int) := by omega
    rw [hi]
    have pe := e.put_eq (ts.drop st) (by rw [List.length_drop]; omega)
    rw [hw, List.drop_drop] at pe
    have hl := putL_len e.kids (ts.drop (st + e.own.length))
    by_cases hk : e.kids = []
    · rw [if_pos hk] at pe
      rw [hk, pe]
      simp [exSs, exS, evT, evE, evEs, getO, getV, putL, szOk]
    · rw [if_neg hk] at pe
      have wk : W.kids = e.kids := by rw [← hw, Ex.wt_kids]
      have p5 := wp_run (P := P) h65 W (putL e.kids (ts.drop (st + e.own.length))) (by rw [hl, wk]) (by rw [wk]; exact hk) (n := n) S
      rw [pe]
      have hne : (putL e.kids (ts.drop (st + e.own.length))).map Ex.d ≠ [] := by
        intro q
        have := congrArg List.length q
        rw [List.length_map, hl] at this
        exact hk (List.length_eq_zero_iff.mp this)
      generalize (putL e.kids (ts.drop (st + e.own.length))).map Ex.d = A at hne p5 ⊢
      have hA : A.isEmpty = false := by cases A <;> first | exact absurd rfl hne | rfl
      simp [exSs, exS, evT, evE, evEs, getO, getV, putV, hA, p5, szOk]
/-! ### numbered -/
def nmb : Ss := (.cons (.popOwn 3 2) (.cons (.appOwn 1 (.var 3)) (.cons (.extOwn 2 (.rev (.call 60 (.cons (.var 3) .nil)))) .nil)))
theorem nm_turn (h60 : defs 60 = some fd60) {mk : CallF} {n : Nat} {x : D} {res stk : List Ex} {e : Ex} {s3 : Slot} {S : Store} (h1 : res.length ≤ 1000000) (h2 : stk.length ≤ 1000000) :
    turnW (evT P (callF P defs (n + 1)) mk (.truOwn 2)) (exSs P (callF P defs (n + 1)) mk nmb) ([.val x, .own (res.map Ex.d), .own ((stk ++ [e]).map Ex.d), s3], S) = some (.inl ([.val x, .own ((res ++ [e]).map Ex.d), .own ((stk ++ e.kids.reverse).map Ex.d), .val e.d], S)) := by
  have p := parts_run (P := P) h60 e (n := n) S
  have hk3 : e.kids.length ≤ 3 := by cases e <;> simp [Ex.kids]
  rw [show (stk ++ [e]).map Ex.d = stk.map Ex.d ++ [e.d] by simp, show (res ++ [e]).map Ex.d = res.map Ex.d ++ [e.d] by simp, show (stk ++ e.kids.reverse).map Ex.d = stk.map Ex.d ++ (e.kids.map Ex.d).reverse by simp]
  have l1 : (res.map Ex.d).length < 16777216 := by simp; omega
  have l2 : (stk.map Ex.d).length + (e.kids.map Ex.d).length ≤ 16777216 := by simp; omega
  generalize res.map Ex.d = A at l1 ⊢
  generalize stk.map Ex.d = B at l2 ⊢
  generalize e.kids.map Ex.d = C at l2 p ⊢
  have hne : (B ++ [e.d]).isEmpty = false := by cases B <;> rfl
  simp [turnW, evT, getO, exSs, exS, nmb, getV, putV, evE, evEs, p, l1, l2, szOk, flS, hne]
theorem nm_stop {mk : CallF} {n : Nat} {x : D} {A : List D} {s3 : Slot} {S : Store} : turnW (evT P (callF P defs n) mk (.truOwn 2)) (exSs P (callF P defs n) mk nmb) ([.val x, .own A, .own [], s3], S) = some (.inr (.nx [.val x, .own A, .own [], s3] S)) := by
  simp [turnW, evT, getO]
theorem nm_loop (h60 : defs 60 = some fd60) {mk : CallF} {n : Nat} {x : D} {S : Store} : ∀ (m : Nat) (res stk : List Ex) {s3 : Slot}, (stk.map Ex.sz).sum ≤ m → res.length + m ≤ 1000000 →
    ∃ s3', whileD (turnW (evT P (callF P defs (n + 1)) mk (.truOwn 2)) (exSs P (callF P defs (n + 1)) mk nmb)) ([.val x, .own (res.map Ex.d), .own (stk.map Ex.d), s3], S) = some (.nx [.val x, .own ((res ++ stk.reverse.flatMap Ex.all).map Ex.d), .own [], s3'] S)
  | m, res, stk, s3, hm, hl => by
    rcases List.eq_nil_or_concat stk with rfl | ⟨st, e, rfl⟩
    · refine ⟨s3, ?_⟩
      rw [whileD_eq, show List.map Ex.d ([] : List Ex) = [] from rfl, nm_stop]
      simp
    · rw [List.concat_eq_append] at hm ⊢
      have hs := e.kid_sz
      simp only [List.map_append, List.sum_append, List.map_cons, List.map_nil, List.sum_cons, List.sum_nil] at hm
      cases m with
      | zero => omega
      | succ m =>
        have len_sum : ∀ l : List Ex, l.length ≤ (l.map Ex.sz).sum := fun l => by
          induction l with
          | nil => simp
          | cons a l ih => have := a.sz_pos; simp; omega
        have := len_sum st
        obtain ⟨s3', e2⟩ := nm_loop h60 (mk := mk) (n := n) (x := x) (S := S) m (res ++ [e]) (st ++ e.kids.reverse) (s3 := .val e.d) (by
          simp only [List.map_append, List.sum_append, List.map_reverse, List.sum_reverse]; omega) (by simp; omega)
        refine ⟨s3', ?_⟩
        rw [whileD_eq, nm_turn h60 (by omega) (by omega)]
        simp only [Option.bind_some]
        rw [e2]
        congr 3
        simp [List.flatMap_append, Ex.all_eq e]
theorem numbered_run (h60 : defs 60 = some fd60) (h : defs 61 = some fd61) (e : Ex) {n : Nat} (S : Store) (hz : e.sz ≤ 1000000) : callF P defs (n + 2) 61 [e.d] S = some (.lst (e.all.map Ex.d), S) := by
  obtain ⟨s3', ew⟩ := nm_loop (P := P) h60 (mk := (callP P defs (n + 1)).2) (n := n) (x := e.d) (S := S) e.sz [] [e] (s3 := .un) (by simp) (by simp; omega)
  rw [callF_on h]
  refine runD_end rfl ?_
  show exSs P _ _ (.cons (.setOwn 1 (.disp .nil)) (.cons (.setOwn 2 (.disp (.cons (.var 0) .nil))) (.cons (.while (.truOwn 2) nmb) (.cons (.freeze 1) (.cons (.ret (.var 1)) .nil))))) [.val e.d, .un, .un, .un] S = _
  rw [exS_nx (ρ1 := [.val e.d, .own [], .un, .un]) (S1 := S) (by simp [exS, evL, evEs, szOk])]
  rw [exS_nx (ρ1 := [.val e.d, .own [], .own [e.d], .un]) (S1 := S) (by simp [exS, evL, evE, evEs, getV, szOk])]
  rw [exS_nx (ρ1 := [.val e.d, .own (e.all.map Ex.d), .own [], s3']) (S1 := S) (by
    have ew' : whileD (turnW (evT P (callF P defs (n + 1)) (callP P defs (n + 1)).2 (.truOwn 2)) (exSs P (callF P defs (n + 1)) (callP P defs (n + 1)).2 nmb)) ([.val e.d, .own [], .own [e.d], .un], S) = some (.nx [.val e.d, .own (e.all.map Ex.d), .own [], s3'] S) := by
      have q : ([] ++ [e].reverse.flatMap Ex.all) = e.all := by simp
      rw [← q]
      exact ew
    simp only [exS, ew'])]
  simp [exSs, exS, evE, getO, getV, putV]
def anb : Ss := (.cons (.extOwn 1 (.call 62 (.cons (.var 2) .nil))) .nil)
theorem an_loop (h62 : defs 62 = some fd62) {mk : CallF} {n : Nat} {x : D} {S : Store} : ∀ (ks : List Ex) (acc : List Ty) {s2 : Slot}, acc.length + (ks.flatMap Ex.own).length ≤ 1000000 →
    ∃ s2', forD (turnF true [2] none (exSs P (callF P defs (n + 1)) mk anb)) (ks.map Ex.d) [.val x, .own (acc.map Ty.d), s2] S = some (.nx [.val x, .own ((acc ++ ks.flatMap Ex.own).map Ty.d), s2'] S)
  | [], acc, s2, hl => ⟨s2, by simp [forD]⟩
  | k :: ks, acc, s2, hl => by
    simp only [List.flatMap_cons, List.length_append] at hl
    obtain ⟨s2', e2⟩ := an_loop h62 (mk := mk) (n := n) (x := x) (S := S) ks (acc ++ k.own) (s2 := .val k.d) (by rw [List.length_append]; omega)
    refine ⟨s2', ?_⟩
    have p := own_run (P := P) h62 k (n := n) S
    have hz : acc.length + k.own.length ≤ 16777216 := by omega
    show (turnF true [2] none (exSs P (callF P defs (n + 1)) mk anb) k.d _ S).bind _ = _
    have et : turnF true [2] none (exSs P (callF P defs (n + 1)) mk anb) k.d [.val x, .own (acc.map Ty.d), s2] S = some (.nx [.val x, .own ((acc ++ k.own).map Ty.d), .val k.d] S) := by
      simp [turnF, putT, putV, exSs, exS, anb, evE, evEs, getV, getO, p, szOk, hz, kept_none]
    rw [et]
    show forD _ _ _ _ = _
    rw [e2, List.flatMap_cons, List.append_assoc]
theorem annot_run (h60 : defs 60 = some fd60) (h61 : defs 61 = some fd61) (h62 : defs 62 = some fd62) (h : defs 67 = some fd67) (e : Ex) {n : Nat} (S : Store) (hz : e.sz ≤ 400000) : callF P defs (n + 3) 67 [e.d] S = some (.lst (e.notes.map Ty.d), S) := by
  have p := numbered_run (P := P) h60 h61 e (n := n) S (by omega)
  have hl := e.notes_len
  rw [← Ex.notes_all] at hl
  obtain ⟨s2', ef⟩ := an_loop (P := P) h62 (mk := (callP P defs (n + 2)).2) (n := n + 1) (x := e.d) (S := S) e.all [] (s2 := .un) (by simp only [List.length_nil]; omega)
  rw [callF_on h]
  refine runD_end rfl ?_
  show exSs P _ _ (.cons (.setOwn 1 (.disp .nil)) (.cons (.forS [2] true (.e (.call 61 (.cons (.var 0) .nil))) anb) (.cons (.freeze 1) (.cons (.ret (.var 1)) .nil)))) [.val e.d, .un, .un] S = _
  rw [exS_nx (ρ1 := [.val e.d, .own [], .un]) (S1 := S) (by simp [exS, evL, evEs, szOk])]
  have ev : evI P (callF P defs (n + 2)) (callP P defs (n + 2)).2 (.e (.call 61 (.cons (.var 0) .nil))) [.val e.d, .own [], .un] S = some ((e.all.map Ex.d, none), S) := by simp [evI, evE, evEs, getV, p, itemsD]
  have ef' : forD (turnF true [2] none (exSs P (callF P defs (n + 2)) (callP P defs (n + 2)).2 anb)) (e.all.map Ex.d) [.val e.d, .own [], .un] S = some (.nx [.val e.d, .own (e.notes.map Ty.d), s2'] S) := by
    rw [← Ex.notes_all]
    exact ef
  rw [exS_nx (ρ1 := [.val e.d, .own (e.notes.map Ty.d), s2']) (S1 := S) (by simp only [exS, ev, Option.bind_some, ef'])]
  simp [exSs, exS, evE, getO, getV, putV]
theorem with_run (h60 : defs 60 = some fd60) (h62 : defs 62 = some fd62) (h63 : defs 63 = some fd63) (h64 : defs 64 = some fd64) (h65 : defs 65 = some fd65) (h : defs 66 = some fd66) (e : Ex) (ts : List Ty) {n : Nat} (S : Store) (hn : e.ht + 1 ≤ n) (hl : e.notes.length ≤ ts.length) : callF P defs (n + 1) 66 [e.d, .lst (ts.map Ty.d)] S = some ((e.put ts).d, S) := by
  have p := rb_run (P := P) h60 h62 h63 h65 h64 ts _ e 0 S (Nat.le_refl _) hn (by omega)
  have p' : callF P defs n 64 [e.d, .lst (ts.map Ty.d), .int 0] S = some (.tup [(e.put ts).d, .int (0 + e.notes.length)], S) := p
  rw [callF_on h]
  refine runD_end rfl ?_
  generalize ts.map Ty.d = Z at p' ⊢
  simp [runD, exSs, exS, evE, evT, evEs, evL, evI, evIfs, evAnd, evOr, evAndT, evOrT, startD, getV, putV, getO, putVs, putT, wipeE, idxD, sliceD, isAbs, partD, biD, one1, lenD, intD, absD, tupleD, max2D, maxD, maxI, intsD, isTD, tyD, isT, binD, cmpD, isD, n_non, n_tup, n_lst, n_int, n_str, n_bl, truD, lstAt, itemsD, forD, compD, turnF, turnC, kept_none, szOk, rg_nat, rangeL, at0, at1, at2, at3, at4, at5, at6, ix0, ix1, gc_same, gc_len, eq_int, eq_str, eq_bl, str_inj, str_beq, cut1, cut2, lr0, lr1, lr2, lr3, lr4, lr5, lr6, lr7, b66, listD, p']
theorem compD_const {T : D → Store → Option (Option D × Store)} {S : Store} {d : D} : ∀ {l : List D}, (∀ x ∈ l, T x S = some (some d, S)) → compD T l S = some (List.replicate l.length d, S)
  | [], _ => rfl
  | x :: l, h => by
    have ih := compD_const (T := T) (S := S) (d := d) (l := l) fun y hy => h y (List.mem_cons_of_mem _ hy)
    show (T x S).bind _ = _
    rw [h x List.mem_cons_self]
    simp [ih, List.replicate_succ]
def anyL (k : Nat) : List Ty := List.replicate k .any
theorem erased_run (hg : P.glob 0 = some (.tup [.str "any"])) (h60 : defs 60 = some fd60) (h61 : defs 61 = some fd61) (h62 : defs 62 = some fd62) (h63 : defs 63 = some fd63) (h64 : defs 64 = some fd64) (h65 : defs 65 = some fd65) (h66 : defs 66 = some fd66) (h67 : defs 67 = some fd67) (h : defs 77 = some fd77) (e : Ex) {n : Nat} (S : Store) (hn : e.ht + 4 ≤ n) (hz : e.sz ≤ 400000) :
    callF P defs (n + 1) 77 [e.d] S = some ((e.put (anyL e.notes.length)).d, S) := by
  obtain ⟨n, rfl⟩ : ∃ k, n = k + 3 := ⟨n - 3, by omega⟩
  have p := annot_run (P := P) h60 h61 h62 h67 e (n := n) S hz
  have q := with_run (P := P) h60 h62 h63 h64 h65 h66 e (anyL e.notes.length) (n := n + 2) S (by omega) (by simp [anyL])
  have hl := e.notes_len
  have hz2 : decide ((e.notes.map Ty.d).length ≤ 16777216) = true := by rw [List.length_map]; exact decide_eq_true (by omega)
  have hc : compD (turnC true [1] none (evIfs P (callF P defs (n + 3)) (callP P defs (n + 3)).2 .nil) (evE P (callF P defs (n + 3)) (callP P defs (n + 3)).2 (.glob 0)) [.val e.d, .un]) (e.notes.map Ty.d) S = some ((anyL e.notes.length).map Ty.d, S) := by
    have z := compD_const (T := turnC true [1] none (evIfs P (callF P defs (n + 3)) (callP P defs (n + 3)).2 .nil) (evE P (callF P defs (n + 3)) (callP P defs (n + 3)).2 (.glob 0)) [.val e.d, .un]) (S := S) (d := Ty.any.d) (l := e.notes.map Ty.d) fun x hx => by
      simp [turnC, putT, putV, wipeE, evIfs, evE, hg, kept_none, Ty.d]
    rw [z]
    simp [anyL]
  have ev : evI P (callF P defs (n + 3)) (callP P defs (n + 3)).2 (.e (.call 67 (.cons (.var 0) .nil))) [.val e.d, .un] S = some ((e.notes.map Ty.d, none), S) := by simp [evI, evE, evEs, getV, p, itemsD]
  have el : evL P (callF P defs (n + 3)) (callP P defs (n + 3)).2 (.comp [1] true (.e (.call 67 (.cons (.var 0) .nil))) .nil (.glob 0)) [.val e.d, .un] S = some ((anyL e.notes.length).map Ty.d, S) := by
    simp only [evL, ev, Option.bind_some, hz2, if_true, hc]
  rw [callF_on h]
  refine runD_end rfl ?_
  show exSs P _ _ (.cons (.ret (.call 66 (.cons (.var 0) (.cons (.frz (.comp [1] true (.e (.call 67 (.cons (.var 0) .nil))) .nil (.glob 0))) .nil)))) .nil) [.val e.d, .un] S = _
  simp only [exSs, exS, evE, evEs, getV, List.getElem?_cons_zero, Option.map_some, Option.bind_some, el, q]
def exb : Ss := (.cons (.ite (.call 68 (.cons (.var 1) .nil)) (.cons (.ret (.bl false)) .nil) .nil) .nil)
theorem ex_loop (hg : P.glob 0 = some (.tup [.str "any"])) (h68 : defs 68 = some fd68) {mk : CallF} {n : Nat} {x : Slot} {S : Store} : ∀ (ts : List Ty) {s1 : Slot}, (∀ t ∈ ts, t.h ≤ n) →
    (ts.any Ty.hasAny = true → forD (turnF true [1] none (exSs P (callF P defs n) mk exb)) (ts.map Ty.d) [x, s1] S = some (.rt (.bl false) S)) ∧ (ts.any Ty.hasAny = false → ∃ s1', forD (turnF true [1] none (exSs P (callF P defs n) mk exb)) (ts.map Ty.d) [x, s1] S = some (.nx [x, s1'] S))
  | [], s1, h => ⟨fun q => by simp at q, fun _ => ⟨s1, rfl⟩⟩
  | t :: ts, s1, h => by
    have p := hasany_run (P := P) hg h68 t S (h t List.mem_cons_self)
    obtain ⟨q1, q2⟩ := ex_loop hg h68 (mk := mk) (n := n) (x := x) (S := S) ts (s1 := .val t.d) fun u hu => h u (List.mem_cons_of_mem _ hu)
    cases ha : t.hasAny with
    | true =>
      rw [ha] at p
      refine ⟨fun _ => ?_, fun q => by simp [ha] at q⟩
      show (turnF true [1] none (exSs P (callF P defs n) mk exb) t.d _ S).bind _ = _
      simp [turnF, putT, putV, exSs, exS, exb, evT, evE, evEs, getV, p, truD]
    | false =>
      rw [ha] at p
      have et : turnF true [1] none (exSs P (callF P defs n) mk exb) t.d [x, s1] S = some (.nx [x, .val t.d] S) := by
        simp [turnF, putT, putV, exSs, exS, exb, evT, evE, evEs, getV, p, truD, kept_none]
      refine ⟨fun q => ?_, fun q => ?_⟩
      · show (turnF true [1] none (exSs P (callF P defs n) mk exb) t.d _ S).bind _ = _
        rw [et]
        exact q1 (by simpa [ha] using q)
      · obtain ⟨s1', e⟩ := q2 (by simpa [ha] using q)
        refine ⟨s1', ?_⟩
        show (turnF true [1] none (exSs P (callF P defs n) mk exb) t.d _ S).bind _ = _
        rw [et]
        exact e
theorem exact_run (hg : P.glob 0 = some (.tup [.str "any"])) (h60 : defs 60 = some fd60) (h61 : defs 61 = some fd61) (h62 : defs 62 = some fd62) (h67 : defs 67 = some fd67) (h68 : defs 68 = some fd68) (h : defs 76 = some fd76) (e : Ex) {n : Nat} (S : Store) (hh : ∀ t ∈ e.notes, t.h ≤ n + 3) (hz : e.sz ≤ 400000) : callF P defs (n + 4) 76 [e.d] S = some (.bl (!e.notes.any Ty.hasAny), S) := by
  have p := annot_run (P := P) h60 h61 h62 h67 e (n := n) S hz
  obtain ⟨q1, q2⟩ := ex_loop (P := P) hg h68 (mk := (callP P defs (n + 3)).2) (n := n + 3) (x := .val e.d) (S := S) e.notes (s1 := .un) hh
  have ev : evI P (callF P defs (n + 3)) (callP P defs (n + 3)).2 (.e (.call 67 (.cons (.var 0) .nil))) [.val e.d, .un] S = some ((e.notes.map Ty.d, none), S) := by simp [evI, evE, evEs, getV, p, itemsD]
  rw [callF_on h]
  refine runD_end rfl ?_
  show exSs P _ _ (.cons (.forS [1] true (.e (.call 67 (.cons (.var 0) .nil))) exb) (.cons (.ret (.bl true)) .nil)) [.val e.d, .un] S = _
  cases ha : e.notes.any Ty.hasAny with
  | true =>
    have e1 := q1 ha
    show (exS P _ _ (.forS [1] true (.e (.call 67 (.cons (.var 0) .nil))) exb) _ S).bind _ = _
    simp only [exS, ev, Option.bind_some, e1]
    rfl
  | false =>
    obtain ⟨s1', e1⟩ := q2 ha
    rw [exS_nx (ρ1 := [.val e.d, s1']) (S1 := S) (by simp only [exS, ev, Option.bind_some, e1])]
    simp [exSs, exS, evE]
end
end HN

set_option maxHeartbeats 0
/-! Programs drawn by the law. -/
namespace HN
open PySem L2
/-- _law_any_type -/
def b69 : Ss := (.cons (.set 2 (.call 4 (.cons (.var 0) (.cons (.int 8) .nil)))) (.cons (.ite (.and (.cons (.cmp .gt (.var 1) (.int 0)) (.cons (.cmp .lt (.var 2) (.int 3)) .nil))) (.cons (.ite (.cmp .eq (.var 2) (.int 2)) (.cons (.ret (.tup (.cons (.str "box") (.cons (.call 69 (.cons (.var 0) (.cons (.bin .sub (.var 1) (.int 1)) .nil))) .nil)))) .nil) .nil) (.cons (.ret (.tup (.cons (.idx (.frz (.disp (.cons (.str "fun") (.cons (.str "pair") .nil)))) (.var 2)) (.cons (.call 69 (.cons (.var 0) (.cons (.bin .sub (.var 1) (.int 1)) .nil))) (.cons (.call 69 (.cons (.var 0) (.cons (.bin .sub (.var 1) (.int 1)) .nil))) .nil))))) .nil)) .nil) (.cons (.ret (.idx (.frz (.disp (.cons (.tup (.cons (.str "int") .nil)) (.cons (.tup (.cons (.str "any") .nil)) (.cons (.tup (.cons (.str "bool") .nil)) (.cons (.tup (.cons (.str "unit") .nil)) .nil)))))) (.bin .mod (.var 2) (.int 4)))) .nil)))
abbrev fd69 : FD := ⟨2, 3, b69⟩
/-- _law_any_tree -/
def b70 : Ss := (.cons (.set 2 (.call 4 (.cons (.var 0) (.cons (.int 18) .nil)))) (.cons (.set 3 (.idx (.frz (.disp (.cons (.str "x") (.cons (.str "y") (.cons (.str "f") (.cons (.str "g2") .nil)))))) (.call 4 (.cons (.var 0) (.cons (.int 4) .nil))))) (.cons (.ite (.or (.cons (.cmp .eq (.var 1) (.int 0)) (.cons (.cmp .lt (.var 2) (.int 2)) .nil))) (.cons (.ret (.idx (.frz (.disp (.cons (.tup (.cons (.str "num") (.cons (.call 4 (.cons (.var 0) (.cons (.int 99) .nil))) .nil))) (.cons (.tup (.cons (.str "flag") (.cons (.cmp .eq (.var 2) (.int 1)) .nil))) (.cons (.tup (.cons (.str "unit") .nil)) (.cons (.tup (.cons (.str "name") (.cons (.var 3) .nil))) .nil)))))) (.call 4 (.cons (.var 0) (.cons (.int 4) .nil))))) .nil) .nil) (.cons (.ite (.cmp .lt (.var 2) (.int 5)) (.cons (.ret (.tup (.cons (.str "fun") (.cons (.var 3) (.cons (.call 69 (.cons (.var 0) (.cons (.int 3) .nil))) (.cons (.call 70 (.cons (.var 0) (.cons (.bin .sub (.var 1) (.int 1)) .nil))) .nil)))))) .nil) .nil) (.cons (.ite (.cmp .lt (.var 2) (.int 7)) (.cons (.set 5 (.tup (.cons (.call 69 (.cons (.var 0) (.cons (.int 3) .nil))) (.cons (.call 69 (.cons (.var 0) (.cons (.int 2) .nil))) .nil)))) (.cons (.ret (.bin .add (.bin .add (.tup (.cons (.str "rec") (.cons (.str "h") (.cons (.var 3) .nil)))) (.var 5)) (.tup (.cons (.call 70 (.cons (.var 0) (.cons (.bin .sub (.var 1) (.int 1)) .nil))) .nil)))) .nil)) .nil) (.cons (.ite (.cmp .lt (.var 2) (.int 10)) (.cons (.ret (.tup (.cons (.str "as") (.cons (.call 70 (.cons (.var 0) (.cons (.bin .sub (.var 1) (.int 1)) .nil))) (.cons (.call 69 (.cons (.var 0) (.cons (.int 3) .nil))) .nil))))) .nil) .nil) (.cons (.ite (.cmp .lt (.var 2) (.int 12)) (.cons (.set 4 (.idx (.frz (.disp (.cons (.tup (.cons (.str "let") (.cons (.var 3) .nil))) (.cons (.tup (.cons (.str "op") (.cons (.str "+") .nil))) (.cons (.tup (.cons (.str "op") (.cons (.str "==") .nil))) (.cons (.tup (.cons (.str "op") (.cons (.str "<") .nil))) .nil)))))) (.call 4 (.cons (.var 0) (.cons (.int 4) .nil))))) (.cons (.ret (.bin .add (.var 4) (.tup (.cons (.call 70 (.cons (.var 0) (.cons (.bin .sub (.var 1) (.int 1)) .nil))) (.cons (.call 70 (.cons (.var 0) (.cons (.bin .sub (.var 1) (.int 1)) .nil))) .nil))))) .nil)) .nil) (.cons (.ite (.cmp .eq (.var 2) (.int 12)) (.cons (.set 6 (.call 70 (.cons (.var 0) (.cons (.bin .sub (.var 1) (.int 1)) .nil)))) (.cons (.ret (.tup (.cons (.str "if") (.cons (.var 6) (.cons (.call 70 (.cons (.var 0) (.cons (.bin .sub (.var 1) (.int 1)) .nil))) (.cons (.call 70 (.cons (.var 0) (.cons (.bin .sub (.var 1) (.int 1)) .nil))) .nil)))))) .nil)) .nil) (.cons (.ite (.cmp .lt (.var 2) (.int 15)) (.cons (.ret (.tup (.cons (.idx (.frz (.disp (.cons (.str "fst") (.cons (.str "snd") (.cons (.str "box") (.cons (.str "get") (.cons (.str "not") .nil))))))) (.call 4 (.cons (.var 0) (.cons (.int 5) .nil)))) (.cons (.call 70 (.cons (.var 0) (.cons (.bin .sub (.var 1) (.int 1)) .nil))) .nil)))) .nil) .nil) (.cons (.set 4 (.idx (.frz (.disp (.cons (.str "call") (.cons (.str "pair") (.cons (.str "put") (.cons (.str "print") .nil)))))) (.call 4 (.cons (.var 0) (.cons (.int 4) .nil))))) (.cons (.ret (.tup (.cons (.var 4) (.cons (.call 70 (.cons (.var 0) (.cons (.bin .sub (.var 1) (.int 1)) .nil))) (.cons (.call 70 (.cons (.var 0) (.cons (.bin .sub (.var 1) (.int 1)) .nil))) .nil))))) .nil)))))))))))
abbrev fd70 : FD := ⟨2, 7, b70⟩
theorem runD_len' {P : Prg} {c m : CallF} {fd : FD} {ds : List D} {S S1 : Store} {d : D} (hp : ds.length = fd.params) (h : exSs P c m fd.body (startD fd.slots ds) S = some (.rt d S1)) (hl : S1.length = S.length) : runD P c m fd ds S = some (d, S1) := by
  unfold runD
  rw [if_pos hp, h]
  show some (gcD S (d, S1)) = _
  rw [gc_len hl]
def okN (s : Str) : Prop := niceS s = true ∧ s.cps.size ≤ 8
/-- what is drawn: names, numbers, types -/
def Ex.gd : Ex → Prop
  | .num i => 0 ≤ i ∧ i < 99
  | .flag _ => True
  | .unit => True
  | .name s => okN s
  | .fn x T e => okN x ∧ T.h ≤ 4 ∧ e.gd
  | .rc f x T U e => okN f ∧ okN x ∧ T.h ≤ 4 ∧ U.h ≤ 4 ∧ e.gd
  | .as e T => T.h ≤ 4 ∧ e.gd
  | .bin _ s a b => okN s ∧ a.gd ∧ b.gd
  | .cond a b c => a.gd ∧ b.gd ∧ c.gd
  | .un _ a => a.gd
  | .two _ a b => a.gd ∧ b.gd
theorem Ex.gd_notes : ∀ (e : Ex), e.gd → ∀ t ∈ e.notes, t.h ≤ 4
  | .num _, _ => by simp [Ex.notes]
  | .flag _, _ => by simp [Ex.notes]
  | .unit, _ => by simp [Ex.notes]
  | .name _, _ => by simp [Ex.notes]
  | .fn x T e, g => fun t ht => by
    rcases List.mem_cons.mp ht with rfl | ht
    · exact g.2.1
    · exact Ex.gd_notes e g.2.2 t ht
  | .rc f x T U e, g => fun t ht => by
    rcases List.mem_cons.mp ht with rfl | ht
    · exact g.2.2.1
    · rcases List.mem_cons.mp ht with rfl | ht
      · exact g.2.2.2.1
      · exact Ex.gd_notes e g.2.2.2.2 t ht
  | .as e T, g => fun t ht => by
    rcases List.mem_cons.mp ht with rfl | ht
    · exact g.1
    · exact Ex.gd_notes e g.2 t ht
  | .bin _ s a b, g => fun t ht => by
    rcases List.mem_append.mp ht with ht | ht
    · exact Ex.gd_notes a g.2.1 t ht
    · exact Ex.gd_notes b g.2.2 t ht
  | .cond a b c, g => fun t ht => by
    rcases List.mem_append.mp ht with ht | ht
    · exact Ex.gd_notes a g.1 t ht
    · rcases List.mem_append.mp ht with ht | ht
      · exact Ex.gd_notes b g.2.1 t ht
      · exact Ex.gd_notes c g.2.2 t ht
  | .un _ a, g => Ex.gd_notes a g
  | .two _ a b, g => fun t ht => by
    rcases List.mem_append.mp ht with ht | ht
    · exact Ex.gd_notes a g.1 t ht
    · exact Ex.gd_notes b g.2 t ht
theorem Ty.dep_h (t : Ty) : D.dep t.d = t.h := Ty.dep t
theorem Ex.dep : ∀ (e : Ex), e.gd → D.dep e.d ≤ e.ht + 5
  | .num _, _ => by simp [Ex.d, D.dep, D.depL]
  | .flag _, _ => by simp [Ex.d, D.dep, D.depL]
  | .unit, _ => by simp [Ex.d, D.dep, D.depL]
  | .name _, _ => by simp [Ex.d, D.dep, D.depL]
  | .fn x T e, g => by have := Ex.dep e g.2.2; have := g.2.1; simp only [Ex.d, D.dep, D.depL, Ty.dep_h, Ex.ht]; omega
  | .rc f x T U e, g => by have := Ex.dep e g.2.2.2.2; have := g.2.2.1; have := g.2.2.2.1; simp only [Ex.d, D.dep, D.depL, Ty.dep_h, Ex.ht]; omega
  | .as e T, g => by have := Ex.dep e g.2; have := g.1; simp only [Ex.d, D.dep, D.depL, Ty.dep_h, Ex.ht]; omega
  | .bin k s a b, g => by have := Ex.dep a g.2.1; have := Ex.dep b g.2.2; cases k <;> simp only [Ex.d, D.dep, D.depL, Ex.ht] <;> omega
  | .cond a b c, g => by have := Ex.dep a g.1; have := Ex.dep b g.2.1; have := Ex.dep c g.2.2; simp only [Ex.d, D.dep, D.depL, Ex.ht]; omega
  | .un _ a, g => by have := Ex.dep a g; simp only [Ex.d, D.dep, D.depL, Ex.ht]; omega
  | .two _ a b, g => by have := Ex.dep a g.1; have := Ex.dep b g.2; simp only [Ex.d, D.dep, D.depL, Ex.ht]; omega
theorem Ty.nice : ∀ t : Ty, D.nice t.d = true
  | .any => by decide +kernel
  | .int => by decide +kernel
  | .bool => by decide +kernel
  | .unit => by decide +kernel
  | .fn a b => by have h : niceS "fun" = true := by decide +kernel
                  simp [Ty.d, D.nice, D.niceL, h, Ty.nice a, Ty.nice b]
  | .pair a b => by have h : niceS "pair" = true := by decide +kernel
                    simp [Ty.d, D.nice, D.niceL, h, Ty.nice a, Ty.nice b]
  | .box a => by have h : niceS "box" = true := by decide +kernel
                 simp [Ty.d, D.nice, D.niceL, h, Ty.nice a]
theorem Ty.wt : ∀ t : Ty, (toPy t.d).weight + 8 ≤ 8 * 2 ^ t.h
  | .any => by decide +kernel
  | .int => by decide +kernel
  | .bool => by decide +kernel
  | .unit => by decide +kernel
  | .fn a b => by
    have e : (PyData.str "fun").weight = 3 := by decide +kernel
    have h1 := Ty.wt a
    have h2 := Ty.wt b
    have y1 : 2 ^ a.h ≤ 2 ^ max a.h b.h := Nat.pow_le_pow_right (by decide) (Nat.le_max_left _ _)
    have y2 : 2 ^ b.h ≤ 2 ^ max a.h b.h := Nat.pow_le_pow_right (by decide) (Nat.le_max_right _ _)
    simp only [Ty.d, Ty.h, toPy, toPyL, PyData.weight, PyData.weightAll, Nat.pow_succ] at e ⊢
    omega
  | .pair a b => by
    have e : (PyData.str "pair").weight = 4 := by decide +kernel
    have h1 := Ty.wt a
    have h2 := Ty.wt b
    have y1 : 2 ^ a.h ≤ 2 ^ max a.h b.h := Nat.pow_le_pow_right (by decide) (Nat.le_max_left _ _)
    have y2 : 2 ^ b.h ≤ 2 ^ max a.h b.h := Nat.pow_le_pow_right (by decide) (Nat.le_max_right _ _)
    simp only [Ty.d, Ty.h, toPy, toPyL, PyData.weight, PyData.weightAll, Nat.pow_succ] at e ⊢
    omega
  | .box a => by
    have e : (PyData.str "box").weight = 3 := by decide +kernel
    have h1 := Ty.wt a
    have y1 : 1 ≤ 2 ^ a.h := Nat.one_le_two_pow
    simp only [Ty.d, Ty.h, toPy, toPyL, PyData.weight, PyData.weightAll, Nat.pow_succ] at e ⊢
    omega
theorem Ty.wt4 {t : Ty} (h : t.h ≤ 4) : (toPy t.d).weight ≤ 120 := by
  have h1 := t.wt
  have h2 : 2 ^ t.h ≤ 2 ^ 4 := Nat.pow_le_pow_right (by decide) h
  omega
theorem U1.ok (k : U1) : okN k.s := by cases k <;> exact ⟨by decide +kernel, by decide +kernel⟩
theorem U2.ok (k : U2) : okN k.s := by cases k <;> exact ⟨by decide +kernel, by decide +kernel⟩
theorem okl (s : String) (h1 : niceS (Str.ofString s) = true) (h2 : (Str.ofString s).cps.size ≤ 8) : okN (Str.ofString s) := ⟨h1, h2⟩
theorem k_num : okN "num" := ⟨by decide +kernel, by decide +kernel⟩
theorem k_flag : okN "flag" := ⟨by decide +kernel, by decide +kernel⟩
theorem k_unit : okN "unit" := ⟨by decide +kernel, by decide +kernel⟩
theorem k_name : okN "name" := ⟨by decide +kernel, by decide +kernel⟩
theorem k_fun : okN "fun" := ⟨by decide +kernel, by decide +kernel⟩
theorem k_rec : okN "rec" := ⟨by decide +kernel, by decide +kernel⟩
theorem k_as : okN "as" := ⟨by decide +kernel, by decide +kernel⟩
theorem k_let : okN "let" := ⟨by decide +kernel, by decide +kernel⟩
theorem k_op : okN "op" := ⟨by decide +kernel, by decide +kernel⟩
theorem k_if : okN "if" := ⟨by decide +kernel, by decide +kernel⟩
theorem Ex.nice : ∀ (e : Ex), e.gd → D.nice e.d = true
  | .num i, g => by
    obtain ⟨g1, g2⟩ := g
    simp [Ex.d, D.nice, D.niceL, k_num.1]
    omega
  | .flag _, _ => by simp [Ex.d, D.nice, D.niceL, k_flag.1]
  | .unit, _ => by simp [Ex.d, D.nice, D.niceL, k_unit.1]
  | .name _, g => by simp [Ex.d, D.nice, D.niceL, k_name.1, g.1]
  | .fn x T e, g => by simp [Ex.d, D.nice, D.niceL, k_fun.1, g.1.1, T.nice, Ex.nice e g.2.2]
  | .rc f x T U e, g => by simp [Ex.d, D.nice, D.niceL, k_rec.1, g.1.1, g.2.1.1, T.nice, U.nice, Ex.nice e g.2.2.2.2]
  | .as e T, g => by simp [Ex.d, D.nice, D.niceL, k_as.1, T.nice, Ex.nice e g.2]
  | .bin k s a b, g => by cases k <;> simp [Ex.d, D.nice, D.niceL, k_let.1, k_op.1, g.1.1, Ex.nice a g.2.1, Ex.nice b g.2.2]
  | .cond a b c, g => by simp [Ex.d, D.nice, D.niceL, k_if.1, Ex.nice a g.1, Ex.nice b g.2.1, Ex.nice c g.2.2]
  | .un k a, g => by simp [Ex.d, D.nice, D.niceL, k.ok.1, Ex.nice a g]
  | .two k a b, g => by simp [Ex.d, D.nice, D.niceL, k.ok.1, Ex.nice a g.1, Ex.nice b g.2]
theorem Ex.wt4 : ∀ (e : Ex), e.gd → (toPy e.d).weight ≤ 400 * e.sz
  | .num i, g => by
    have h := int_wt (i := i) (by have := g.1; have := g.2; omega)
    have k := k_num.2
    have z : (toPy (Ex.num i).d).weight = (PyData.str "num").weight + 1 + ((PyData.int i).weight + 1 + 0) := rfl
    rw [z, PyData.weight]
    simp only [Ex.sz]
    omega
  | .flag _, _ => by have k := k_flag.2; simp only [Ex.d, toPy, toPyL, PyData.weight, PyData.weightAll, Ex.sz]; omega
  | .unit, _ => by have k := k_unit.2; simp only [Ex.d, toPy, toPyL, PyData.weight, PyData.weightAll, Ex.sz]; omega
  | .name _, g => by have k := k_name.2; have k2 := g.2; simp only [Ex.d, toPy, toPyL, PyData.weight, PyData.weightAll, Ex.sz]; omega
  | .fn x T e, g => by
    have k := k_fun.2
    have k2 := g.1.2
    have k3 := Ty.wt4 g.2.1
    have k4 := Ex.wt4 e g.2.2
    simp only [Ex.d, toPy, toPyL, PyData.weight, PyData.weightAll, Ex.sz]; omega
  | .rc f x T U e, g => by
    have k := k_rec.2
    have k1 := g.1.2
    have k2 := g.2.1.2
    have k3 := Ty.wt4 g.2.2.1
    have k3' := Ty.wt4 g.2.2.2.1
    have k4 := Ex.wt4 e g.2.2.2.2
    simp only [Ex.d, toPy, toPyL, PyData.weight, PyData.weightAll, Ex.sz]; omega
  | .as e T, g => by
    have k := k_as.2
    have k3 := Ty.wt4 g.1
    have k4 := Ex.wt4 e g.2
    simp only [Ex.d, toPy, toPyL, PyData.weight, PyData.weightAll, Ex.sz]; omega
  | .bin k s a b, g => by
    have k1 := k_let.2
    have k1' := k_op.2
    have k2 := g.1.2
    have k3 := Ex.wt4 a g.2.1
    have k4 := Ex.wt4 b g.2.2
    cases k <;> simp only [Ex.d, toPy, toPyL, PyData.weight, PyData.weightAll, Ex.sz] <;> omega
  | .cond a b c, g => by
    have k1 := k_if.2
    have k2 := Ex.wt4 a g.1
    have k3 := Ex.wt4 b g.2.1
    have k4 := Ex.wt4 c g.2.2
    simp only [Ex.d, toPy, toPyL, PyData.weight, PyData.weightAll, Ex.sz]; omega
  | .un k a, g => by
    have k1 := k.ok.2
    have k2 := Ex.wt4 a g
    simp only [Ex.d, toPy, toPyL, PyData.weight, PyData.weightAll, Ex.sz]; omega
  | .two k a b, g => by
    have k1 := k.ok.2
    have k2 := Ex.wt4 a g.1
    have k3 := Ex.wt4 b g.2
    simp only [Ex.d, toPy, toPyL, PyData.weight, PyData.weightAll, Ex.sz]; omega
theorem Ex.repr {e : Ex} (g : e.gd) (h1 : e.ht ≤ 40) (h2 : e.sz ≤ 2000) : ∃ x, reprD e.d = some (.str x) := by
  have hd := Ex.dep e g
  have hz : D.dep e.d ≠ 0 := by
    cases e <;> first | (simp [Ex.d, D.dep]; done) | skip
    rename_i k _ _ _
    cases k <;> simp [Ex.d, D.dep]
  exact ⟨_, repr_some e.data hz (by omega) (e.nice g) (by have := e.wt4 g; omega)⟩
section
variable {P : Prg} {defs : Nat → Option FD}
theorem atype_ok (h4 : defs 4 = some fd4) (h : defs 69 = some fd69) : ∀ (e : Nat) (d : Int) {n : Nat} {S : Store}, Good S → d ≤ e → e + 2 ≤ n → ∃ t S', Good S' ∧ Ty.h t ≤ e + 1 ∧ callF P defs n 69 [.ref 1, .int d] S = some (t.d, S')
  | e, d, 0, S, g, hd, hn => by omega
  | e, d, 1, S, g, hd, hn => by omega
  | e, d, n + 2, S, g, hd, hn => by
    obtain ⟨r, S1, g1, r0, r9, e0⟩ := take_ok (P := P) (n := n) h4 g (most := 8) (by decide) (by decide)
    have l0 := g.len
    have l1 := g1.len
    by_cases hc : 0 < d ∧ r < 3
    · obtain ⟨hd0, hr⟩ := hc
      obtain ⟨e, rfl⟩ : ∃ k, e = k + 1 := ⟨e - 1, by omega⟩
      obtain ⟨t1, S2, g2, k2, e1⟩ := atype_ok h4 h e (d - 1) (n := n + 1) g1 (by omega) (by omega)
      have l2 := g2.len
      have c : r = 0 ∨ r = 1 ∨ r = 2 := by omega
      rcases c with rfl | rfl | rfl
      · obtain ⟨t2, S3, g3, k3, e2⟩ := atype_ok h4 h e (d - 1) (n := n + 1) g2 (by omega) (by omega)
        have l3 := g3.len
        refine ⟨.fn t1 t2, S3, g3, by simp [Ty.h]; omega, ?_⟩
        rw [callF_on h]
        simp [runD, exSs, exS, evE, evT, evEs, evL, evI, evIfs, evAnd, evOr, evAndT, evOrT, startD, getV, putV, getO, putVs, putT, wipeE, idxD, sliceD, isAbs, partD, biD, one1, lenD, intD, absD, tupleD, max2D, maxD, maxI, intsD, isTD, tyD, isT, binD, cmpD, isD, n_non, n_tup, n_lst, n_int, n_str, n_bl, truD, lstAt, itemsD, forD, compD, turnF, turnC, kept_none, szOk, rg_nat, rangeL, at0, at1, at2, at3, at4, at5, at6, ix0, ix1, gc_same, gc_len, eq_int, eq_str, eq_bl, str_inj, str_beq, cut1, cut2, lr0, lr1, lr2, lr3, lr4, lr5, lr6, lr7, b69, e0, e1, e2, l0, l1, l2, l3, hd0, Ty.d]
      · obtain ⟨t2, S3, g3, k3, e2⟩ := atype_ok h4 h e (d - 1) (n := n + 1) g2 (by omega) (by omega)
        have l3 := g3.len
        refine ⟨.pair t1 t2, S3, g3, by simp [Ty.h]; omega, ?_⟩
        rw [callF_on h]
        simp [runD, exSs, exS, evE, evT, evEs, evL, evI, evIfs, evAnd, evOr, evAndT, evOrT, startD, getV, putV, getO, putVs, putT, wipeE, idxD, sliceD, isAbs, partD, biD, one1, lenD, intD, absD, tupleD, max2D, maxD, maxI, intsD, isTD, tyD, isT, binD, cmpD, isD, n_non, n_tup, n_lst, n_int, n_str, n_bl, truD, lstAt, itemsD, forD, compD, turnF, turnC, kept_none, szOk, rg_nat, rangeL, at0, at1, at2, at3, at4, at5, at6, ix0, ix1, gc_same, gc_len, eq_int, eq_str, eq_bl, str_inj, str_beq, cut1, cut2, lr0, lr1, lr2, lr3, lr4, lr5, lr6, lr7, b69, e0, e1, e2, l0, l1, l2, l3, hd0, Ty.d]
      · refine ⟨.box t1, S2, g2, by simp [Ty.h]; omega, ?_⟩
        rw [callF_on h]
        simp [runD, exSs, exS, evE, evT, evEs, evL, evI, evIfs, evAnd, evOr, evAndT, evOrT, startD, getV, putV, getO, putVs, putT, wipeE, idxD, sliceD, isAbs, partD, biD, one1, lenD, intD, absD, tupleD, max2D, maxD, maxI, intsD, isTD, tyD, isT, binD, cmpD, isD, n_non, n_tup, n_lst, n_int, n_str, n_bl, truD, lstAt, itemsD, forD, compD, turnF, turnC, kept_none, szOk, rg_nat, rangeL, at0, at1, at2, at3, at4, at5, at6, ix0, ix1, gc_same, gc_len, eq_int, eq_str, eq_bl, str_inj, str_beq, cut1, cut2, lr0, lr1, lr2, lr3, lr4, lr5, lr6, lr7, b69, e0, e1, l0, l1, l2, hd0, Ty.d]
    · have m0 : 0 ≤ r % 4 := Int.emod_nonneg _ (by decide)
      have m1 : r % 4 < 4 := Int.emod_lt_of_pos _ (by decide)
      have fin : ∀ t : Ty, t.h = 1 → atI ([.tup [.str "int"], .tup [.str "any"], .tup [.str "bool"], .tup [.str "unit"]] : List D) (r % 4) = some t.d → ∃ t S', Good S' ∧ Ty.h t ≤ e + 1 ∧ callF P defs (n + 2) 69 [.ref 1, .int d] S = some (t.d, S') := fun t ht ha => by
        refine ⟨t, S1, g1, by omega, ?_⟩
        rw [callF_on h]
        by_cases hd0 : 0 < d
        · have n0 : ¬ r < 3 := fun q => hc ⟨hd0, q⟩
          simp [runD, exSs, exS, evE, evT, evEs, evL, evI, evIfs, evAnd, evOr, evAndT, evOrT, startD, getV, putV, getO, putVs, putT, wipeE, idxD, sliceD, isAbs, partD, biD, one1, lenD, intD, absD, tupleD, max2D, maxD, maxI, intsD, isTD, tyD, isT, binD, cmpD, isD, n_non, n_tup, n_lst, n_int, n_str, n_bl, truD, lstAt, itemsD, forD, compD, turnF, turnC, kept_none, szOk, rg_nat, rangeL, at0, at1, at2, at3, at4, at5, at6, ix0, ix1, gc_same, gc_len, eq_int, eq_str, eq_bl, str_inj, str_beq, cut1, cut2, lr0, lr1, lr2, lr3, lr4, lr5, lr6, lr7, b69, e0, l0, l1, ha, hd0, n0]
        · simp [runD, exSs, exS, evE, evT, evEs, evL, evI, evIfs, evAnd, evOr, evAndT, evOrT, startD, getV, putV, getO, putVs, putT, wipeE, idxD, sliceD, isAbs, partD, biD, one1, lenD, intD, absD, tupleD, max2D, maxD, maxI, intsD, isTD, tyD, isT, binD, cmpD, isD, n_non, n_tup, n_lst, n_int, n_str, n_bl, truD, lstAt, itemsD, forD, compD, turnF, turnC, kept_none, szOk, rg_nat, rangeL, at0, at1, at2, at3, at4, at5, at6, ix0, ix1, gc_same, gc_len, eq_int, eq_str, eq_bl, str_inj, str_beq, cut1, cut2, lr0, lr1, lr2, lr3, lr4, lr5, lr6, lr7, b69, e0, l0, l1, ha, hd0]
      have c : r % 4 = 0 ∨ r % 4 = 1 ∨ r % 4 = 2 ∨ r % 4 = 3 := by omega
      rcases c with c | c | c | c
      · exact fin .int rfl (by rw [c]; rfl)
      · exact fin .any rfl (by rw [c]; rfl)
      · exact fin .bool rfl (by rw [c]; rfl)
      · exact fin .unit rfl (by rw [c]; rfl)
theorem name4 {q : Int} (h0 : 0 ≤ q) (h1 : q < 4) : ∃ s : Str, okN s ∧ atI ([.str "x", .str "y", .str "f", .str "g2"] : List D) q = some (.str s) := by
  have c : q = 0 ∨ q = 1 ∨ q = 2 ∨ q = 3 := by omega
  rcases c with rfl | rfl | rfl | rfl
  · exact ⟨"x", ⟨by decide +kernel, by decide +kernel⟩, rfl⟩
  · exact ⟨"y", ⟨by decide +kernel, by decide +kernel⟩, rfl⟩
  · exact ⟨"f", ⟨by decide +kernel, by decide +kernel⟩, rfl⟩
  · exact ⟨"g2", ⟨by decide +kernel, by decide +kernel⟩, rfl⟩
theorem u5 {q : Int} (h0 : 0 ≤ q) (h1 : q < 5) : ∃ k : U1, atI ([.str "fst", .str "snd", .str "box", .str "get", .str "not"] : List D) q = some (.str k.s) := by
  have c : q = 0 ∨ q = 1 ∨ q = 2 ∨ q = 3 ∨ q = 4 := by omega
  rcases c with rfl | rfl | rfl | rfl | rfl
  · exact ⟨.fst, rfl⟩
  · exact ⟨.snd, rfl⟩
  · exact ⟨.box, rfl⟩
  · exact ⟨.get, rfl⟩
  · exact ⟨.not, rfl⟩
theorem u4 {q : Int} (h0 : 0 ≤ q) (h1 : q < 4) : ∃ k : U2, atI ([.str "call", .str "pair", .str "put", .str "print"] : List D) q = some (.str k.s) := by
  have c : q = 0 ∨ q = 1 ∨ q = 2 ∨ q = 3 := by omega
  rcases c with rfl | rfl | rfl | rfl
  · exact ⟨.call, rfl⟩
  · exact ⟨.pair, rfl⟩
  · exact ⟨.put, rfl⟩
  · exact ⟨.print, rfl⟩
theorem head4 {q : Int} {s : Str} (hs : okN s) (h0 : 0 ≤ q) (h1 : q < 4) : ∃ (k : Bool) (t : Str), okN t ∧ atI ([.tup [.str "let", .str s], .tup [.str "op", .str "+"], .tup [.str "op", .str "=="], .tup [.str "op", .str "<"]] : List D) q = some (.tup [.str (if k then "let" else "op"), .str t]) := by
  have c : q = 0 ∨ q = 1 ∨ q = 2 ∨ q = 3 := by omega
  rcases c with rfl | rfl | rfl | rfl
  · exact ⟨true, s, hs, rfl⟩
  · exact ⟨false, "+", ⟨by decide +kernel, by decide +kernel⟩, rfl⟩
  · exact ⟨false, "==", ⟨by decide +kernel, by decide +kernel⟩, rfl⟩
  · exact ⟨false, "<", ⟨by decide +kernel, by decide +kernel⟩, rfl⟩
theorem leaf4 {q i : Int} {b : Bool} {s : Str} (hi : 0 ≤ i ∧ i < 99) (hs : okN s) (h0 : 0 ≤ q) (h1 : q < 4) : ∃ e : Ex, e.gd ∧ e.ht = 1 ∧ e.sz = 1 ∧ atI ([.tup [.str "num", .int i], .tup [.str "flag", .bl b], .tup [.str "unit"], .tup [.str "name", .str s]] : List D) q = some e.d := by
  have c : q = 0 ∨ q = 1 ∨ q = 2 ∨ q = 3 := by omega
  rcases c with rfl | rfl | rfl | rfl
  · exact ⟨.num i, hi, rfl, rfl, rfl⟩
  · exact ⟨.flag b, trivial, rfl, rfl, rfl⟩
  · exact ⟨.unit, trivial, rfl, rfl, rfl⟩
  · exact ⟨.name s, hs, rfl, rfl, rfl⟩
theorem k_h : okN "h" := ⟨by decide +kernel, by decide +kernel⟩
theorem tree_ok (h4 : defs 4 = some fd4) (h69 : defs 69 = some fd69) (h : defs 70 = some fd70) : ∀ (m : Nat) {n : Nat} {S : Store}, Good S → m + 6 ≤ n → ∃ e S', Good S' ∧ Ex.ht e ≤ m + 1 ∧ e.gd ∧ 2 * e.sz + 1 ≤ 3 ^ (m + 1) ∧ callF P defs n 70 [.ref 1, .int m] S = some (e.d, S')
  | m, 0, S, g, hn => by omega
  | m, 1, S, g, hn => by omega
  | m, n + 2, S, g, hn => by
    obtain ⟨r, S1, g1, r0, r9, e0⟩ := take_ok (P := P) (n := n) h4 g (most := 18) (by decide) (by decide)
    obtain ⟨q, S2, g2, q0, q9, e1⟩ := take_ok (P := P) (n := n) h4 g1 (most := 4) (by decide) (by decide)
    obtain ⟨s, hs, es⟩ := name4 q0 q9
    have l0 := g.len
    have l2 := g2.len
    by_cases hb : m = 0 ∨ r < 2
    · obtain ⟨i, S3, g3, i0, i9, e2⟩ := take_ok (P := P) (n := n) h4 g2 (most := 99) (by decide) (by decide)
      obtain ⟨j, S4, g4, j0, j9, e3⟩ := take_ok (P := P) (n := n) h4 g3 (most := 4) (by decide) (by decide)
      obtain ⟨e, ge, he, hz, ea⟩ := leaf4 (b := r == 1) ⟨i0, i9⟩ hs j0 j9
      have l4 := g4.len
      refine ⟨e, S4, g4, by omega, ge, by have : 3 ^ 1 ≤ 3 ^ (m + 1) := Nat.pow_le_pow_right (by decide) (by omega); omega, ?_⟩
      rw [callF_on h]
      refine runD_len' rfl ?_ (by rw [l4, l0])
      rcases hb with hb | hb
      · subst hb
        simp [runD, exSs, exS, evE, evT, evEs, evL, evI, evIfs, evAnd, evOr, evAndT, evOrT, startD, getV, putV, getO, putVs, putT, wipeE, idxD, sliceD, isAbs, partD, biD, one1, lenD, intD, absD, tupleD, max2D, maxD, maxI, intsD, isTD, tyD, isT, binD, cmpD, isD, n_non, n_tup, n_lst, n_int, n_str, n_bl, truD, lstAt, itemsD, forD, compD, turnF, turnC, kept_none, szOk, rg_nat, rangeL, at0, at1, at2, at3, at4, at5, at6, ix0, ix1, gc_same, gc_len, eq_int, eq_str, eq_bl, str_inj, str_beq, cut1, cut2, lr0, lr1, lr2, lr3, lr4, lr5, lr6, lr7, b70, e0, e1, e2, e3, es, ea]
      · by_cases z : (m : Int) = 0
        · simp [runD, exSs, exS, evE, evT, evEs, evL, evI, evIfs, evAnd, evOr, evAndT, evOrT, startD, getV, putV, getO, putVs, putT, wipeE, idxD, sliceD, isAbs, partD, biD, one1, lenD, intD, absD, tupleD, max2D, maxD, maxI, intsD, isTD, tyD, isT, binD, cmpD, isD, n_non, n_tup, n_lst, n_int, n_str, n_bl, truD, lstAt, itemsD, forD, compD, turnF, turnC, kept_none, szOk, rg_nat, rangeL, at0, at1, at2, at3, at4, at5, at6, ix0, ix1, gc_same, gc_len, eq_int, eq_str, eq_bl, str_inj, str_beq, cut1, cut2, lr0, lr1, lr2, lr3, lr4, lr5, lr6, lr7, b70, e0, e1, e2, e3, es, ea, z]
        · simp [runD, exSs, exS, evE, evT, evEs, evL, evI, evIfs, evAnd, evOr, evAndT, evOrT, startD, getV, putV, getO, putVs, putT, wipeE, idxD, sliceD, isAbs, partD, biD, one1, lenD, intD, absD, tupleD, max2D, maxD, maxI, intsD, isTD, tyD, isT, binD, cmpD, isD, n_non, n_tup, n_lst, n_int, n_str, n_bl, truD, lstAt, itemsD, forD, compD, turnF, turnC, kept_none, szOk, rg_nat, rangeL, at0, at1, at2, at3, at4, at5, at6, ix0, ix1, gc_same, gc_len, eq_int, eq_str, eq_bl, str_inj, str_beq, cut1, cut2, lr0, lr1, lr2, lr3, lr4, lr5, lr6, lr7, b70, e0, e1, e2, e3, es, ea, z, hb]
    · obtain ⟨hm0, hr2⟩ := not_or.mp hb
      obtain ⟨m, rfl⟩ : ∃ k, m = k + 1 := ⟨m - 1, by omega⟩
      have z0 : ((m : Int) + 1 = 0) = False := by simp; omega
      have z1 : (m : Int) + 1 - 1 = m := by omega
      have pw : 3 ^ (m + 1 + 1) = 3 * 3 ^ (m + 1) := by rw [Nat.pow_succ]; omega
      have p1 : 3 ≤ 3 ^ (m + 1) := by have : 3 ^ 1 ≤ 3 ^ (m + 1) := Nat.pow_le_pow_right (by decide) (by omega); omega
      have tree : ∀ {S : Store}, Good S → ∃ e S', Good S' ∧ Ex.ht e ≤ m + 1 ∧ e.gd ∧ 2 * e.sz + 1 ≤ 3 ^ (m + 1) ∧ callF P defs (n + 1) 70 [.ref 1, .int m] S = some (e.d, S') := fun g => tree_ok h4 h69 h m (n := n + 1) g (by omega)
      have typ : ∀ (k : Nat) {S : Store}, Good S → k ≤ 3 → ∃ t S', Good S' ∧ Ty.h t ≤ 4 ∧ callF P defs (n + 1) 69 [.ref 1, .int k] S = some (t.d, S') := fun k S g hk => by
        obtain ⟨t, S', g', h', e'⟩ := atype_ok (P := P) h4 h69 k k (n := n + 1) g (by omega) (by omega)
        exact ⟨t, S', g', by omega, e'⟩
      by_cases c5 : r < 5
      · obtain ⟨T, S3, g3, hT, e2⟩ := typ 3 g2 (by decide)
        have e2 : callF P defs (n + 1) 69 [.ref 1, .int 3] S2 = some (T.d, S3) := e2
        obtain ⟨a, S4, g4, ha, ga, za, e3⟩ := tree g3
        have l4 := g4.len
        refine ⟨.fn s T a, S4, g4, by simp only [Ex.ht]; omega, ⟨hs, hT, ga⟩, by simp only [Ex.sz]; omega, ?_⟩
        rw [callF_on h]
        refine runD_len' rfl ?_ (by rw [l4, l0])
        simp [runD, exSs, exS, evE, evT, evEs, evL, evI, evIfs, evAnd, evOr, evAndT, evOrT, startD, getV, putV, getO, putVs, putT, wipeE, idxD, sliceD, isAbs, partD, biD, one1, lenD, intD, absD, tupleD, max2D, maxD, maxI, intsD, isTD, tyD, isT, binD, cmpD, isD, n_non, n_tup, n_lst, n_int, n_str, n_bl, truD, lstAt, itemsD, forD, compD, turnF, turnC, kept_none, szOk, rg_nat, rangeL, at0, at1, at2, at3, at4, at5, at6, ix0, ix1, gc_same, gc_len, eq_int, eq_str, eq_bl, str_inj, str_beq, cut1, cut2, lr0, lr1, lr2, lr3, lr4, lr5, lr6, lr7, b70, e0, e1, e2, e3, es, z0, z1, hr2, c5, Ex.d]
      by_cases c7 : r < 7
      · obtain ⟨T, S3, g3, hT, e2⟩ := typ 3 g2 (by decide)
        have e2 : callF P defs (n + 1) 69 [.ref 1, .int 3] S2 = some (T.d, S3) := e2
        obtain ⟨U, S4, g4, hU, e3⟩ := typ 2 g3 (by decide)
        have e3 : callF P defs (n + 1) 69 [.ref 1, .int 2] S3 = some (U.d, S4) := e3
        obtain ⟨a, S5, g5, ha, ga, za, e4⟩ := tree g4
        have l5 := g5.len
        refine ⟨.rc "h" s T U a, S5, g5, by simp only [Ex.ht]; omega, ⟨k_h, hs, hT, hU, ga⟩, by simp only [Ex.sz]; omega, ?_⟩
        rw [callF_on h]
        refine runD_len' rfl ?_ (by rw [l5, l0])
        simp [runD, exSs, exS, evE, evT, evEs, evL, evI, evIfs, evAnd, evOr, evAndT, evOrT, startD, getV, putV, getO, putVs, putT, wipeE, idxD, sliceD, isAbs, partD, biD, one1, lenD, intD, absD, tupleD, max2D, maxD, maxI, intsD, isTD, tyD, isT, binD, cmpD, isD, n_non, n_tup, n_lst, n_int, n_str, n_bl, truD, lstAt, itemsD, forD, compD, turnF, turnC, kept_none, szOk, rg_nat, rangeL, at0, at1, at2, at3, at4, at5, at6, ix0, ix1, gc_same, gc_len, eq_int, eq_str, eq_bl, str_inj, str_beq, cut1, cut2, lr0, lr1, lr2, lr3, lr4, lr5, lr6, lr7, b70, e0, e1, e2, e3, e4, es, z0, z1, hr2, c5, c7, Ex.d]
      by_cases c10 : r < 10
      · obtain ⟨a, S3, g3, ha, ga, za, e2⟩ := tree g2
        obtain ⟨T, S4, g4, hT, e3⟩ := typ 3 g3 (by decide)
        have e3 : callF P defs (n + 1) 69 [.ref 1, .int 3] S3 = some (T.d, S4) := e3
        have l4 := g4.len
        refine ⟨.as a T, S4, g4, by simp only [Ex.ht]; omega, ⟨hT, ga⟩, by simp only [Ex.sz]; omega, ?_⟩
        rw [callF_on h]
        refine runD_len' rfl ?_ (by rw [l4, l0])
        simp [runD, exSs, exS, evE, evT, evEs, evL, evI, evIfs, evAnd, evOr, evAndT, evOrT, startD, getV, putV, getO, putVs, putT, wipeE, idxD, sliceD, isAbs, partD, biD, one1, lenD, intD, absD, tupleD, max2D, maxD, maxI, intsD, isTD, tyD, isT, binD, cmpD, isD, n_non, n_tup, n_lst, n_int, n_str, n_bl, truD, lstAt, itemsD, forD, compD, turnF, turnC, kept_none, szOk, rg_nat, rangeL, at0, at1, at2, at3, at4, at5, at6, ix0, ix1, gc_same, gc_len, eq_int, eq_str, eq_bl, str_inj, str_beq, cut1, cut2, lr0, lr1, lr2, lr3, lr4, lr5, lr6, lr7, b70, e0, e1, e2, e3, es, z0, z1, hr2, c5, c7, c10, Ex.d]
      by_cases c12 : r < 12
      · obtain ⟨j, S3, g3, j0, j9, e2⟩ := take_ok (P := P) (n := n) h4 g2 (most := 4) (by decide) (by decide)
        obtain ⟨k, t, ht, eh⟩ := head4 hs j0 j9
        obtain ⟨a, S4, g4, ha, ga, za, e3⟩ := tree g3
        obtain ⟨b, S5, g5, hb', gb, zb, e4⟩ := tree g4
        have l5 := g5.len
        refine ⟨.bin k t a b, S5, g5, by simp only [Ex.ht]; omega, ⟨ht, ga, gb⟩, by simp only [Ex.sz]; omega, ?_⟩
        rw [callF_on h]
        refine runD_len' rfl ?_ (by rw [l5, l0])
        cases k
        · simp at eh
          simp [runD, exSs, exS, evE, evT, evEs, evL, evI, evIfs, evAnd, evOr, evAndT, evOrT, startD, getV, putV, getO, putVs, putT, wipeE, idxD, sliceD, isAbs, partD, biD, one1, lenD, intD, absD, tupleD, max2D, maxD, maxI, intsD, isTD, tyD, isT, binD, cmpD, isD, n_non, n_tup, n_lst, n_int, n_str, n_bl, truD, lstAt, itemsD, forD, compD, turnF, turnC, kept_none, szOk, rg_nat, rangeL, at0, at1, at2, at3, at4, at5, at6, ix0, ix1, gc_same, gc_len, eq_int, eq_str, eq_bl, str_inj, str_beq, cut1, cut2, lr0, lr1, lr2, lr3, lr4, lr5, lr6, lr7, b70, e0, e1, e2, e3, e4, es, eh, z0, z1, hr2, c5, c7, c10, c12, Ex.d]
        · simp at eh
          simp [runD, exSs, exS, evE, evT, evEs, evL, evI, evIfs, evAnd, evOr, evAndT, evOrT, startD, getV, putV, getO, putVs, putT, wipeE, idxD, sliceD, isAbs, partD, biD, one1, lenD, intD, absD, tupleD, max2D, maxD, maxI, intsD, isTD, tyD, isT, binD, cmpD, isD, n_non, n_tup, n_lst, n_int, n_str, n_bl, truD, lstAt, itemsD, forD, compD, turnF, turnC, kept_none, szOk, rg_nat, rangeL, at0, at1, at2, at3, at4, at5, at6, ix0, ix1, gc_same, gc_len, eq_int, eq_str, eq_bl, str_inj, str_beq, cut1, cut2, lr0, lr1, lr2, lr3, lr4, lr5, lr6, lr7, b70, e0, e1, e2, e3, e4, es, eh, z0, z1, hr2, c5, c7, c10, c12, Ex.d]
      by_cases c13 : r = 12
      · obtain ⟨a, S3, g3, ha, ga, za, e2⟩ := tree g2
        obtain ⟨b, S4, g4, hb', gb, zb, e3⟩ := tree g3
        obtain ⟨c, S5, g5, hc, gc, zc, e4⟩ := tree g4
        have l5 := g5.len
        refine ⟨.cond a b c, S5, g5, by simp only [Ex.ht]; omega, ⟨ga, gb, gc⟩, by simp only [Ex.sz]; omega, ?_⟩
        rw [callF_on h]
        refine runD_len' rfl ?_ (by rw [l5, l0])
        subst c13
        simp [runD, exSs, exS, evE, evT, evEs, evL, evI, evIfs, evAnd, evOr, evAndT, evOrT, startD, getV, putV, getO, putVs, putT, wipeE, idxD, sliceD, isAbs, partD, biD, one1, lenD, intD, absD, tupleD, max2D, maxD, maxI, intsD, isTD, tyD, isT, binD, cmpD, isD, n_non, n_tup, n_lst, n_int, n_str, n_bl, truD, lstAt, itemsD, forD, compD, turnF, turnC, kept_none, szOk, rg_nat, rangeL, at0, at1, at2, at3, at4, at5, at6, ix0, ix1, gc_same, gc_len, eq_int, eq_str, eq_bl, str_inj, str_beq, cut1, cut2, lr0, lr1, lr2, lr3, lr4, lr5, lr6, lr7, b70, e0, e1, e2, e3, e4, es, z0, z1, Ex.d]
      by_cases c15 : r < 15
      · obtain ⟨j, S3, g3, j0, j9, e2⟩ := take_ok (P := P) (n := n) h4 g2 (most := 5) (by decide) (by decide)
        obtain ⟨k, eh⟩ := u5 j0 j9
        obtain ⟨a, S4, g4, ha, ga, za, e3⟩ := tree g3
        have l4 := g4.len
        refine ⟨.un k a, S4, g4, by simp only [Ex.ht]; omega, ga, by simp only [Ex.sz]; omega, ?_⟩
        rw [callF_on h]
        refine runD_len' rfl ?_ (by rw [l4, l0])
        simp [runD, exSs, exS, evE, evT, evEs, evL, evI, evIfs, evAnd, evOr, evAndT, evOrT, startD, getV, putV, getO, putVs, putT, wipeE, idxD, sliceD, isAbs, partD, biD, one1, lenD, intD, absD, tupleD, max2D, maxD, maxI, intsD, isTD, tyD, isT, binD, cmpD, isD, n_non, n_tup, n_lst, n_int, n_str, n_bl, truD, lstAt, itemsD, forD, compD, turnF, turnC, kept_none, szOk, rg_nat, rangeL, at0, at1, at2, at3, at4, at5, at6, ix0, ix1, gc_same, gc_len, eq_int, eq_str, eq_bl, str_inj, str_beq, cut1, cut2, lr0, lr1, lr2, lr3, lr4, lr5, lr6, lr7, b70, e0, e1, e2, e3, es, eh, z0, z1, hr2, c5, c7, c10, c12, c13, c15, Ex.d]
      · obtain ⟨j, S3, g3, j0, j9, e2⟩ := take_ok (P := P) (n := n) h4 g2 (most := 4) (by decide) (by decide)
        obtain ⟨k, eh⟩ := u4 j0 j9
        obtain ⟨a, S4, g4, ha, ga, za, e3⟩ := tree g3
        obtain ⟨b, S5, g5, hb', gb, zb, e4⟩ := tree g4
        have l5 := g5.len
        refine ⟨.two k a b, S5, g5, by simp only [Ex.ht]; omega, ⟨ga, gb⟩, by simp only [Ex.sz]; omega, ?_⟩
        rw [callF_on h]
        refine runD_len' rfl ?_ (by rw [l5, l0])
        simp [runD, exSs, exS, evE, evT, evEs, evL, evI, evIfs, evAnd, evOr, evAndT, evOrT, startD, getV, putV, getO, putVs, putT, wipeE, idxD, sliceD, isAbs, partD, biD, one1, lenD, intD, absD, tupleD, max2D, maxD, maxI, intsD, isTD, tyD, isT, binD, cmpD, isD, n_non, n_tup, n_lst, n_int, n_str, n_bl, truD, lstAt, itemsD, forD, compD, turnF, turnC, kept_none, szOk, rg_nat, rangeL, at0, at1, at2, at3, at4, at5, at6, ix0, ix1, gc_same, gc_len, eq_int, eq_str, eq_bl, str_inj, str_beq, cut1, cut2, lr0, lr1, lr2, lr3, lr4, lr5, lr6, lr7, b70, e0, e1, e2, e3, e4, es, eh, z0, z1, hr2, c5, c7, c10, c12, c13, c15, Ex.d]
end
theorem eqv_self : ∀ d : D, D.data d = true → D.eqv d d = true
  | .non, _ => rfl
  | .bl b, _ => by simp [D.eqv]
  | .int i, _ => by simp [D.eqv]
  | .str s, _ => by simp [D.eqv]
  | .tup l, h => eqvL_self l h
  | .lst l, h => eqvL_self l h
  | .scr _, h => by cases h
  | .obj _ _, h => by cases h
  | .ref _, h => by cases h
  | .dic, h => by cases h
where eqvL_self : ∀ l : List D, D.dataL l = true → D.eqvL l l = true
  | [], _ => rfl
  | x :: xs, h => by
    have h' : (D.data x && D.dataL xs) = true := h
    rw [Bool.and_eq_true] at h'
    show (D.eqv x x && D.eqvL xs xs) = true
    rw [eqv_self x h'.1, eqvL_self xs h'.2] <;> rfl
end HN

set_option maxHeartbeats 0
/-! Typed programs drawn by the laws: leaves. -/
namespace HN
open PySem L2
/-- _law_type -/
def b79 : Ss := (.cons (.set 2 (.call 4 (.cons (.var 0) (.cons (.int 9) .nil)))) (.cons (.ite (.and (.cons (.cmp .gt (.var 1) (.int 0)) (.cons (.cmp .eq (.var 2) (.int 0)) .nil))) (.cons (.ret (.tup (.cons (.str "fun") (.cons (.call 79 (.cons (.var 0) (.cons (.bin .sub (.var 1) (.int 1)) .nil))) (.cons (.call 79 (.cons (.var 0) (.cons (.bin .sub (.var 1) (.int 1)) .nil))) .nil))))) .nil) .nil) (.cons (.ite (.and (.cons (.cmp .gt (.var 1) (.int 0)) (.cons (.cmp .eq (.var 2) (.int 1)) .nil))) (.cons (.ret (.tup (.cons (.str "pair") (.cons (.call 79 (.cons (.var 0) (.cons (.bin .sub (.var 1) (.int 1)) .nil))) (.cons (.call 79 (.cons (.var 0) (.cons (.bin .sub (.var 1) (.int 1)) .nil))) .nil))))) .nil) .nil) (.cons (.ite (.and (.cons (.cmp .gt (.var 1) (.int 0)) (.cons (.cmp .eq (.var 2) (.int 2)) .nil))) (.cons (.ret (.tup (.cons (.str "box") (.cons (.call 79 (.cons (.var 0) (.cons (.bin .sub (.var 1) (.int 1)) .nil))) .nil)))) .nil) .nil) (.cons (.ret (.idx (.frz (.disp (.cons (.tup (.cons (.str "int") .nil)) (.cons (.tup (.cons (.str "any") .nil)) (.cons (.tup (.cons (.str "bool") .nil)) (.cons (.tup (.cons (.str "int") .nil)) (.cons (.tup (.cons (.str "unit") .nil)) (.cons (.tup (.cons (.str "any") .nil)) .nil)))))))) (.bin .mod (.var 2) (.int 6)))) .nil)))))
abbrev fd79 : FD := ⟨2, 3, b79⟩
/-- _law_constant -/
def b82 : Ss := (.cons (.ite (.cmp .eq (.idx (.var 1) (.int 0)) (.str "int")) (.cons (.ret (.tup (.cons (.str "num") (.cons (.call 4 (.cons (.var 0) (.cons (.int 9) .nil))) .nil)))) .nil) .nil) (.cons (.ite (.cmp .eq (.idx (.var 1) (.int 0)) (.str "bool")) (.cons (.ret (.tup (.cons (.str "flag") (.cons (.cmp .eq (.call 4 (.cons (.var 0) (.cons (.int 2) .nil))) (.int 1)) .nil)))) .nil) .nil) (.cons (.ite (.cmp .eq (.idx (.var 1) (.int 0)) (.str "any")) (.cons (.ret (.tup (.cons (.str "as") (.cons (.tup (.cons (.str "num") (.cons (.call 4 (.cons (.var 0) (.cons (.int 9) .nil))) .nil))) (.cons (.tup (.cons (.str "any") .nil)) .nil))))) .nil) .nil) (.cons (.ret (.tup (.cons (.str "unit") .nil))) .nil))))
abbrev fd82 : FD := ⟨2, 2, b82⟩
/-- _law_leaf -/
def b81 : Ss := (.cons (.set 3 (.frz (.comp [5] true (.e (.var 1)) (.cons (.cmp .eq (.idx (.var 5) (.int 1)) (.var 2)) .nil) (.idx (.var 5) (.int 0))))) (.cons (.ite (.and (.cons (.cmp .gt (.bi .len (.cons (.var 3) .nil)) (.int 0)) (.cons (.cmp .gt (.call 4 (.cons (.var 0) (.cons (.int 4) .nil))) (.int 0)) .nil))) (.cons (.ret (.tup (.cons (.str "name") (.cons (.idx (.var 3) (.call 4 (.cons (.var 0) (.cons (.bi .len (.cons (.var 3) .nil)) .nil)))) .nil)))) .nil) .nil) (.cons (.ite (.cmp .eq (.idx (.var 2) (.int 0)) (.str "fun")) (.cons (.set 4 (.bin .add (.str "x") (.bi .str (.cons (.bi .len (.cons (.var 1) .nil)) .nil)))) (.cons (.ret (.tup (.cons (.str "fun") (.cons (.var 4) (.cons (.idx (.var 2) (.int 1)) (.cons (.call 81 (.cons (.var 0) (.cons (.bin .add (.var 1) (.frz (.disp (.cons (.tup (.cons (.var 4) (.cons (.idx (.var 2) (.int 1)) .nil))) .nil)))) (.cons (.idx (.var 2) (.int 2)) .nil)))) .nil)))))) .nil)) .nil) (.cons (.ite (.cmp .eq (.idx (.var 2) (.int 0)) (.str "pair")) (.cons (.ret (.tup (.cons (.str "pair") (.cons (.call 81 (.cons (.var 0) (.cons (.var 1) (.cons (.idx (.var 2) (.int 1)) .nil)))) (.cons (.call 81 (.cons (.var 0) (.cons (.var 1) (.cons (.idx (.var 2) (.int 2)) .nil)))) .nil))))) .nil) .nil) (.cons (.ite (.cmp .eq (.idx (.var 2) (.int 0)) (.str "box")) (.cons (.ret (.tup (.cons (.str "box") (.cons (.call 81 (.cons (.var 0) (.cons (.var 1) (.cons (.idx (.var 2) (.int 1)) .nil)))) .nil)))) .nil) .nil) (.cons (.ret (.call 82 (.cons (.var 0) (.cons (.var 2) .nil)))) .nil))))))
abbrev fd81 : FD := ⟨3, 6, b81⟩
/-- names and numbers as they are drawn, the types whatever -/
def Ex.gk : Ex → Prop
  | .num i => 0 ≤ i ∧ i < 99
  | .flag _ => True
  | .unit => True
  | .name s => okN s
  | .fn x T e => okN x ∧ e.gk
  | .rc f x T U e => okN f ∧ okN x ∧ e.gk
  | .as e T => e.gk
  | .bin _ s a b => okN s ∧ a.gk ∧ b.gk
  | .cond a b c => a.gk ∧ b.gk ∧ c.gk
  | .un _ a => a.gk
  | .two _ a b => a.gk ∧ b.gk
def Ty.tw (t : Ty) : Nat := (toPy t.d).weight
def Ex.ew (e : Ex) : Nat := (toPy e.d).weight
structure Out (e : Ex) (W H TH : Nat) : Prop where
  gk : e.gk
  ew : e.ew ≤ W
  ht : e.ht ≤ H
  th : ∀ t ∈ e.notes, t.h ≤ TH
theorem Out.mono {e : Ex} {W H TH W' H' TH' : Nat} (o : Out e W H TH) (h1 : W ≤ W') (h2 : H ≤ H') (h3 : TH ≤ TH') : Out e W' H' TH' :=
  ⟨o.gk, Nat.le_trans o.ew h1, Nat.le_trans o.ht h2, fun t ht => Nat.le_trans (o.th t ht) h3⟩
theorem tw_any : Ty.tw .any = 4 := by decide +kernel
theorem tw_int : Ty.tw .int = 4 := by decide +kernel
theorem tw_bool : Ty.tw .bool = 5 := by decide +kernel
theorem tw_unit : Ty.tw .unit = 5 := by decide +kernel
theorem tw_fn (a b : Ty) : Ty.tw (.fn a b) = a.tw + b.tw + 6 := by
  have e : (PyData.str "fun").weight = 3 := by decide +kernel
  simp only [Ty.tw, Ty.d, toPy, toPyL, PyData.weight, PyData.weightAll] at e ⊢
  omega
theorem tw_pair (a b : Ty) : Ty.tw (.pair a b) = a.tw + b.tw + 7 := by
  have e : (PyData.str "pair").weight = 4 := by decide +kernel
  simp only [Ty.tw, Ty.d, toPy, toPyL, PyData.weight, PyData.weightAll] at e ⊢
  omega
theorem tw_box (a : Ty) : Ty.tw (.box a) = a.tw + 5 := by
  have e : (PyData.str "box").weight = 3 := by decide +kernel
  simp only [Ty.tw, Ty.d, toPy, toPyL, PyData.weight, PyData.weightAll] at e ⊢
  omega
theorem tw_pos (t : Ty) : 4 ≤ t.tw := by
  induction t with
  | any => rw [tw_any]; omega
  | int => rw [tw_int]; omega
  | bool => rw [tw_bool]; omega
  | unit => rw [tw_unit]; omega
  | fn a b _ _ => rw [tw_fn]; omega
  | pair a b _ _ => rw [tw_pair]; omega
  | box a _ => rw [tw_box]; omega
theorem tw_h {t : Ty} {k : Nat} (h : t.h ≤ k) : t.tw + 8 ≤ 8 * 2 ^ k := by
  have h1 := t.wt
  have h2 : 2 ^ t.h ≤ 2 ^ k := Nat.pow_le_pow_right (by decide) h
  unfold Ty.tw
  omega
/-! what the heads weigh -/
theorem ew_num {i : Int} (h : 0 ≤ i ∧ i < 99) : (Ex.num i).ew ≤ 26 := by
  have h1 := int_wt (i := i) (by omega)
  have k : (PyData.str "num").weight = 3 := by decide +kernel
  have z : (Ex.num i).ew = (PyData.str "num").weight + 1 + ((PyData.int i).weight + 1 + 0) := rfl
  omega
theorem ew_flag (b : Bool) : (Ex.flag b).ew ≤ 26 := by cases b <;> decide +kernel
theorem ew_unit : Ex.unit.ew ≤ 26 := by decide +kernel
theorem ew_name {s : Str} (h : okN s) : (Ex.name s).ew ≤ 26 := by
  have k : (PyData.str "name").weight = 4 := by decide +kernel
  have k2 := h.2
  simp only [Ex.ew, Ex.d, toPy, toPyL, PyData.weight, PyData.weightAll] at k ⊢
  omega
theorem ew_fn {x : Str} (h : okN x) (T : Ty) (e : Ex) : (Ex.fn x T e).ew ≤ T.tw + e.ew + 15 := by
  have k : (PyData.str "fun").weight = 3 := by decide +kernel
  have k2 := h.2
  simp only [Ex.ew, Ty.tw, Ex.d, toPy, toPyL, PyData.weight, PyData.weightAll] at k ⊢
  omega
theorem ew_rc {f x : Str} (hf : okN f) (h : okN x) (T U : Ty) (e : Ex) : (Ex.rc f x T U e).ew ≤ T.tw + U.tw + e.ew + 25 := by
  have k : (PyData.str "rec").weight = 3 := by decide +kernel
  have k2 := h.2
  have k3 := hf.2
  simp only [Ex.ew, Ty.tw, Ex.d, toPy, toPyL, PyData.weight, PyData.weightAll] at k ⊢
  omega
theorem ew_as (T : Ty) (e : Ex) : (Ex.as e T).ew ≤ T.tw + e.ew + 5 := by
  have k : (PyData.str "as").weight = 2 := by decide +kernel
  simp only [Ex.ew, Ty.tw, Ex.d, toPy, toPyL, PyData.weight, PyData.weightAll] at k ⊢
  omega
theorem ew_bin (k : Bool) {s : Str} (h : okN s) (a b : Ex) : (Ex.bin k s a b).ew ≤ a.ew + b.ew + 15 := by
  have k1 : (PyData.str "let").weight = 3 := by decide +kernel
  have k1' : (PyData.str "op").weight = 2 := by decide +kernel
  have k2 := h.2
  cases k <;> simp only [Ex.ew, Ex.d, toPy, toPyL, PyData.weight, PyData.weightAll] at k1 k1' ⊢ <;> omega
theorem ew_cond (a b c : Ex) : (Ex.cond a b c).ew ≤ a.ew + b.ew + c.ew + 6 := by
  have k : (PyData.str "if").weight = 2 := by decide +kernel
  simp only [Ex.ew, Ex.d, toPy, toPyL, PyData.weight, PyData.weightAll] at k ⊢
  omega
theorem ew_un (k : U1) (a : Ex) : (Ex.un k a).ew ≤ a.ew + 10 := by
  have k1 := k.ok.2
  simp only [Ex.ew, Ex.d, toPy, toPyL, PyData.weight, PyData.weightAll] at k1 ⊢
  omega
theorem ew_two (k : U2) (a b : Ex) : (Ex.two k a b).ew ≤ a.ew + b.ew + 11 := by
  have k1 := k.ok.2
  simp only [Ex.ew, Ex.d, toPy, toPyL, PyData.weight, PyData.weightAll] at k1 ⊢
  omega
/-! drawn names -/
def xN (k : Nat) : Str := ("x" : Str) ++ Str.ofString (toString (k : Int))
def hN (k : Nat) : Str := ("h" : Str) ++ Str.ofString (toString (k : Int))
theorem xN_all : ((List.range 70).all fun k => niceS (xN k) && decide ((xN k).cps.size ≤ 8)) = true := by decide +kernel
theorem hN_all : ((List.range 70).all fun k => niceS (hN k) && decide ((hN k).cps.size ≤ 8)) = true := by decide +kernel
theorem xN_ok {k : Nat} (h : k < 70) : okN (xN k) := by
  obtain ⟨a, b⟩ := and2 (List.all_eq_true.mp xN_all k (List.mem_range.mpr h))
  exact ⟨a, of_decide_eq_true b⟩
theorem hN_ok {k : Nat} (h : k < 70) : okN (hN k) := by
  obtain ⟨a, b⟩ := and2 (List.all_eq_true.mp hN_all k (List.mem_range.mpr h))
  exact ⟨a, of_decide_eq_true b⟩
theorem str_all : ((List.range 70).all fun k => decide ((k : Int).natAbs.log2 < 1920) && PyData.strOk (toString (k : Int)) && szOk (Str.ofString (toString (k : Int))).length && szOk (1 + (Str.ofString (toString (k : Int))).length)) = true := by decide +kernel
def tS (k : Nat) : Str := Str.ofString (toString (k : Int))
theorem str_k {k : Nat} (h : k < 70) : strD (.int k) = some (.str (tS k)) ∧ szOk (1 + (Str.ofString (toString (k : Int))).length) = true := by
  have q := List.all_eq_true.mp str_all k (List.mem_range.mpr h)
  simp only [Bool.and_eq_true] at q
  obtain ⟨⟨⟨q1, q2⟩, q3⟩, q4⟩ := q
  refine ⟨?_, q4⟩
  show (if decide ((k : Int).natAbs.log2 < 1920) && PyData.strOk (toString (k : Int)) && szOk (Str.ofString (toString (k : Int))).length then some (D.str (toString (k : Int))) else none) = _
  rw [q1, q2, q3] <;> rfl
theorem x_add {k : Nat} (h : k < 70) : binD .add (.str "x") (.str (tS k)) = some (.str (xN k)) := by
  show (if szOk (1 + (Str.ofString (toString (k : Int))).length) then _ else _) = _
  rw [(str_k h).2] <;> rfl
theorem h_add {k : Nat} (h : k < 70) : binD .add (.str "h") (.str (tS k)) = some (.str (hN k)) := by
  show (if szOk (1 + (Str.ofString (toString (k : Int))).length) then _ else _) = _
  rw [(str_k h).2] <;> rfl
/-! what is known -/
def kD (p : Str × Ty) : D := .tup [.str p.1, p.2.d]
def KN (K : List (Str × Ty)) : Prop := ∀ p ∈ K, okN p.1
theorem KN.snoc {K : List (Str × Ty)} (h : KN K) {s : Str} (hs : okN s) (T : Ty) : KN (K ++ [(s, T)]) := fun p hp => by
  rcases List.mem_append.mp hp with hp | hp
  · exact h p hp
  · rw [List.mem_singleton.mp hp]; exact hs
theorem compD_fm {α : Type} {T : D → Store → Option (Option D × Store)} {S : Store} {f g : α → D} {p : α → Bool} : ∀ {l : List α}, (∀ x ∈ l, T (f x) S = some (if p x then some (g x) else none, S)) → compD T (l.map f) S = some ((l.filter p).map g, S)
  | [], _ => rfl
  | x :: l, h => by
    have ih := compD_fm (T := T) (S := S) (f := f) (g := g) (p := p) (l := l) fun y hy => h y (List.mem_cons_of_mem _ hy)
    show (T (f x) S).bind _ = _
    rw [h x List.mem_cons_self]
    cases q : p x with
    | true => simp [ih, q]
    | false => simp [ih, q]
section
variable {P : Prg} {defs : Nat → Option FD}
theorem type79_ok (h4 : defs 4 = some fd4) (h : defs 79 = some fd79) : ∀ (e : Nat) (d : Int) {n : Nat} {S : Store}, Good S → d ≤ e → e + 2 ≤ n → ∃ t S', Good S' ∧ Ty.h t ≤ e + 1 ∧ callF P defs n 79 [.ref 1, .int d] S = some (t.d, S')
  | e, d, 0, S, g, hd, hn => by omega
  | e, d, 1, S, g, hd, hn => by omega
  | e, d, n + 2, S, g, hd, hn => by
    obtain ⟨r, S1, g1, r0, r9, e0⟩ := take_ok (P := P) (n := n) h4 g (most := 9) (by decide) (by decide)
    have l0 := g.len
    have l1 := g1.len
    by_cases hc : 0 < d ∧ r < 3
    · obtain ⟨hd0, hr⟩ := hc
      obtain ⟨e, rfl⟩ : ∃ k, e = k + 1 := ⟨e - 1, by omega⟩
      obtain ⟨t1, S2, g2, k2, e1⟩ := type79_ok h4 h e (d - 1) (n := n + 1) g1 (by omega) (by omega)
      have l2 := g2.len
      have c : r = 0 ∨ r = 1 ∨ r = 2 := by omega
      rcases c with rfl | rfl | rfl
      · obtain ⟨t2, S3, g3, k3, e2⟩ := type79_ok h4 h e (d - 1) (n := n + 1) g2 (by omega) (by omega)
        have l3 := g3.len
        refine ⟨.fn t1 t2, S3, g3, by simp [Ty.h]; omega, ?_⟩
        rw [callF_on h]
        simp [runD, exSs, exS, evE, evT, evEs, evL, evI, evIfs, evAnd, evOr, evAndT, evOrT, startD, getV, putV, getO, putVs, putT, wipeE, idxD, sliceD, isAbs, partD, biD, one1, lenD, intD, absD, tupleD, max2D, maxD, maxI, intsD, isTD, tyD, isT, binD, cmpD, isD, n_non, n_tup, n_lst, n_int, n_str, n_bl, truD, lstAt, itemsD, forD, compD, turnF, turnC, kept_none, szOk, rg_nat, rangeL, at0, at1, at2, at3, at4, at5, at6, ix0, ix1, gc_same, gc_len, eq_int, eq_str, eq_bl, str_inj, str_beq, cut1, cut2, lr0, lr1, lr2, lr3, lr4, lr5, lr6, lr7, b79, e0, e1, e2, l0, l1, l2, l3, hd0, Ty.d]
      · obtain ⟨t2, S3, g3, k3, e2⟩ := type79_ok h4 h e (d - 1) (n := n + 1) g2 (by omega) (by omega)
        have l3 := g3.len
        refine ⟨.pair t1 t2, S3, g3, by simp [Ty.h]; omega, ?_⟩
        rw [callF_on h]
        simp [runD, exSs, exS, evE, evT, evEs, evL, evI, evIfs, evAnd, evOr, evAndT, evOrT, startD, getV, putV, getO, putVs, putT, wipeE, idxD, sliceD, isAbs, partD, biD, one1, lenD, intD, absD, tupleD, max2D, maxD, maxI, intsD, isTD, tyD, isT, binD, cmpD, isD, n_non, n_tup, n_lst, n_int, n_str, n_bl, truD, lstAt, itemsD, forD, compD, turnF, turnC, kept_none, szOk, rg_nat, rangeL, at0, at1, at2, at3, at4, at5, at6, ix0, ix1, gc_same, gc_len, eq_int, eq_str, eq_bl, str_inj, str_beq, cut1, cut2, lr0, lr1, lr2, lr3, lr4, lr5, lr6, lr7, b79, e0, e1, e2, l0, l1, l2, l3, hd0, Ty.d]
      · refine ⟨.box t1, S2, g2, by simp [Ty.h]; omega, ?_⟩
        rw [callF_on h]
        simp [runD, exSs, exS, evE, evT, evEs, evL, evI, evIfs, evAnd, evOr, evAndT, evOrT, startD, getV, putV, getO, putVs, putT, wipeE, idxD, sliceD, isAbs, partD, biD, one1, lenD, intD, absD, tupleD, max2D, maxD, maxI, intsD, isTD, tyD, isT, binD, cmpD, isD, n_non, n_tup, n_lst, n_int, n_str, n_bl, truD, lstAt, itemsD, forD, compD, turnF, turnC, kept_none, szOk, rg_nat, rangeL, at0, at1, at2, at3, at4, at5, at6, ix0, ix1, gc_same, gc_len, eq_int, eq_str, eq_bl, str_inj, str_beq, cut1, cut2, lr0, lr1, lr2, lr3, lr4, lr5, lr6, lr7, b79, e0, e1, l0, l1, l2, hd0, Ty.d]
    · have m0 : 0 ≤ r % 6 := Int.emod_nonneg _ (by decide)
      have m1 : r % 6 < 6 := Int.emod_lt_of_pos _ (by decide)
      have fin : ∀ t : Ty, t.h = 1 → atI ([.tup [.str "int"], .tup [.str "any"], .tup [.str "bool"], .tup [.str "int"], .tup [.str "unit"], .tup [.str "any"]] : List D) (r % 6) = some t.d → ∃ t S', Good S' ∧ Ty.h t ≤ e + 1 ∧ callF P defs (n + 2) 79 [.ref 1, .int d] S = some (t.d, S') := fun t ht ha => by
        refine ⟨t, S1, g1, by omega, ?_⟩
        rw [callF_on h]
        by_cases hd0 : 0 < d
        · have n0 : ¬ r = 0 := by omega
          have n1 : ¬ r = 1 := by omega
          have n2 : ¬ r = 2 := by omega
          simp [runD, exSs, exS, evE, evT, evEs, evL, evI, evIfs, evAnd, evOr, evAndT, evOrT, startD, getV, putV, getO, putVs, putT, wipeE, idxD, sliceD, isAbs, partD, biD, one1, lenD, intD, absD, tupleD, max2D, maxD, maxI, intsD, isTD, tyD, isT, binD, cmpD, isD, n_non, n_tup, n_lst, n_int, n_str, n_bl, truD, lstAt, itemsD, forD, compD, turnF, turnC, kept_none, szOk, rg_nat, rangeL, at0, at1, at2, at3, at4, at5, at6, ix0, ix1, gc_same, gc_len, eq_int, eq_str, eq_bl, str_inj, str_beq, cut1, cut2, lr0, lr1, lr2, lr3, lr4, lr5, lr6, lr7, b79, e0, l0, l1, ha, hd0, n0, n1, n2]
        · simp [runD, exSs, exS, evE, evT, evEs, evL, evI, evIfs, evAnd, evOr, evAndT, evOrT, startD, getV, putV, getO, putVs, putT, wipeE, idxD, sliceD, isAbs, partD, biD, one1, lenD, intD, absD, tupleD, max2D, maxD, maxI, intsD, isTD, tyD, isT, binD, cmpD, isD, n_non, n_tup, n_lst, n_int, n_str, n_bl, truD, lstAt, itemsD, forD, compD, turnF, turnC, kept_none, szOk, rg_nat, rangeL, at0, at1, at2, at3, at4, at5, at6, ix0, ix1, gc_same, gc_len, eq_int, eq_str, eq_bl, str_inj, str_beq, cut1, cut2, lr0, lr1, lr2, lr3, lr4, lr5, lr6, lr7, b79, e0, l0, l1, ha, hd0]
      have c : r % 6 = 0 ∨ r % 6 = 1 ∨ r % 6 = 2 ∨ r % 6 = 3 ∨ r % 6 = 4 ∨ r % 6 = 5 := by omega
      rcases c with c | c | c | c | c | c
      · exact fin .int rfl (by rw [c]; rfl)
      · exact fin .any rfl (by rw [c]; rfl)
      · exact fin .bool rfl (by rw [c]; rfl)
      · exact fin .int rfl (by rw [c]; rfl)
      · exact fin .unit rfl (by rw [c]; rfl)
      · exact fin .any rfl (by rw [c]; rfl)
theorem const_ok (h4 : defs 4 = some fd4) (h : defs 82 = some fd82) {T : Ty} (hT : T.h = 1) {n : Nat} {S : Store} (g : Good S) : ∃ e S', Good S' ∧ Out e (8 * T.tw) 2 1 ∧ callF P defs (n + 2) 82 [.ref 1, T.d] S = some (Ex.d e, S') := by
  have l0 := g.len
  cases T with
  | int =>
    obtain ⟨r, S1, g1, r0, r9, e1⟩ := take_ok (P := P) (n := n) h4 g (most := 9) (by decide) (by decide)
    have l1 := g1.len
    refine ⟨.num r, S1, g1, ⟨⟨r0, by omega⟩, by have := ew_num (i := r) ⟨r0, by omega⟩; rw [tw_int]; omega, by simp [Ex.ht], by simp [Ex.notes]⟩, ?_⟩
    rw [callF_on h]
    refine runD_len' rfl ?_ (by rw [l1, l0])
    simp [runD, exSs, exS, evE, evT, evEs, evL, evI, evIfs, evAnd, evOr, evAndT, evOrT, startD, getV, putV, getO, putVs, putT, wipeE, idxD, sliceD, isAbs, partD, biD, one1, lenD, intD, absD, tupleD, max2D, maxD, maxI, intsD, isTD, tyD, isT, binD, cmpD, isD, n_non, n_tup, n_lst, n_int, n_str, n_bl, truD, lstAt, itemsD, forD, compD, turnF, turnC, kept_none, szOk, rg_nat, rangeL, at0, at1, at2, at3, at4, at5, at6, ix0, ix1, gc_same, gc_len, eq_int, eq_str, eq_bl, str_inj, str_beq, cut1, cut2, lr0, lr1, lr2, lr3, lr4, lr5, lr6, lr7, b82, Ty.d, Ex.d, e1]
  | bool =>
    obtain ⟨r, S1, g1, r0, r9, e1⟩ := take_ok (P := P) (n := n) h4 g (most := 2) (by decide) (by decide)
    have l1 := g1.len
    refine ⟨.flag (r == 1), S1, g1, ⟨trivial, by have := ew_flag (r == 1); rw [tw_bool]; omega, by simp [Ex.ht], by simp [Ex.notes]⟩, ?_⟩
    rw [callF_on h]
    refine runD_len' rfl ?_ (by rw [l1, l0])
    simp [runD, exSs, exS, evE, evT, evEs, evL, evI, evIfs, evAnd, evOr, evAndT, evOrT, startD, getV, putV, getO, putVs, putT, wipeE, idxD, sliceD, isAbs, partD, biD, one1, lenD, intD, absD, tupleD, max2D, maxD, maxI, intsD, isTD, tyD, isT, binD, cmpD, isD, n_non, n_tup, n_lst, n_int, n_str, n_bl, truD, lstAt, itemsD, forD, compD, turnF, turnC, kept_none, szOk, rg_nat, rangeL, at0, at1, at2, at3, at4, at5, at6, ix0, ix1, gc_same, gc_len, eq_int, eq_str, eq_bl, str_inj, str_beq, cut1, cut2, lr0, lr1, lr2, lr3, lr4, lr5, lr6, lr7, b82, Ty.d, Ex.d, e1]
  | unit =>
    refine ⟨.unit, S, g, ⟨trivial, by have := ew_unit; rw [tw_unit]; omega, by simp [Ex.ht], by simp [Ex.notes]⟩, ?_⟩
    rw [callF_on h]
    simp [runD, exSs, exS, evE, evT, evEs, evL, evI, evIfs, evAnd, evOr, evAndT, evOrT, startD, getV, putV, getO, putVs, putT, wipeE, idxD, sliceD, isAbs, partD, biD, one1, lenD, intD, absD, tupleD, max2D, maxD, maxI, intsD, isTD, tyD, isT, binD, cmpD, isD, n_non, n_tup, n_lst, n_int, n_str, n_bl, truD, lstAt, itemsD, forD, compD, turnF, turnC, kept_none, szOk, rg_nat, rangeL, at0, at1, at2, at3, at4, at5, at6, ix0, ix1, gc_same, gc_len, eq_int, eq_str, eq_bl, str_inj, str_beq, cut1, cut2, lr0, lr1, lr2, lr3, lr4, lr5, lr6, lr7, b82, Ty.d, Ex.d]
  | any =>
    obtain ⟨r, S1, g1, r0, r9, e1⟩ := take_ok (P := P) (n := n) h4 g (most := 9) (by decide) (by decide)
    have l1 := g1.len
    have q : (Ex.as (.num r) .any).ew ≤ 32 := by
      have i : (PyData.int r).weight ≤ 4 := by
        have c : r = 0 ∨ r = 1 ∨ r = 2 ∨ r = 3 ∨ r = 4 ∨ r = 5 ∨ r = 6 ∨ r = 7 ∨ r = 8 := by omega
        rcases c with rfl | rfl | rfl | rfl | rfl | rfl | rfl | rfl | rfl <;> decide +kernel
      have z : (Ex.as (.num r) .any).ew = (PyData.str "as").weight + 1 + (((PyData.str "num").weight + 1 + ((PyData.int r).weight + 1 + 0)) + 1 + (((PyData.str "any").weight + 1 + 0) + 1 + 0)) := rfl
      have k1 : (PyData.str "as").weight = 2 := by decide +kernel
      have k2 : (PyData.str "num").weight = 3 := by decide +kernel
      have k3 : (PyData.str "any").weight = 3 := by decide +kernel
      omega
    refine ⟨.as (.num r) .any, S1, g1, ⟨⟨r0, by omega⟩, by rw [tw_any]; omega, by simp [Ex.ht], by simp [Ex.notes, Ty.h]⟩, ?_⟩
    rw [callF_on h]
    refine runD_len' rfl ?_ (by rw [l1, l0])
    simp [runD, exSs, exS, evE, evT, evEs, evL, evI, evIfs, evAnd, evOr, evAndT, evOrT, startD, getV, putV, getO, putVs, putT, wipeE, idxD, sliceD, isAbs, partD, biD, one1, lenD, intD, absD, tupleD, max2D, maxD, maxI, intsD, isTD, tyD, isT, binD, cmpD, isD, n_non, n_tup, n_lst, n_int, n_str, n_bl, truD, lstAt, itemsD, forD, compD, turnF, turnC, kept_none, szOk, rg_nat, rangeL, at0, at1, at2, at3, at4, at5, at6, ix0, ix1, gc_same, gc_len, eq_int, eq_str, eq_bl, str_inj, str_beq, cut1, cut2, lr0, lr1, lr2, lr3, lr4, lr5, lr6, lr7, b82, Ty.d, Ex.d, e1]
  | fn a b => simp only [Ty.h] at hT; have := a.h_pos; omega
  | pair a b => simp only [Ty.h] at hT; have := a.h_pos; omega
  | box a => simp only [Ty.h] at hT; have := a.h_pos; omega
def lfn : Lx := .comp [5] true (.e (.var 1)) (.cons (.cmp .eq (.idx (.var 5) (.int 1)) (.var 2)) .nil) (.idx (.var 5) (.int 0))
theorem names_ok {mk c : CallF} {K : List (Str × Ty)} {T : Ty} (hT : T.h ≤ 60) (hK : K.length ≤ 1000) {s0 s3 s4 s5 : Slot} {S : Store} : evL P c mk lfn [s0, .val (.lst (K.map kD)), .val T.d, s3, s4, s5] S = some ((K.filter fun p => decide (p.2 = T)).map fun p => D.str p.1, S) := by
  have hc : compD (turnC true [5] none (evIfs P c mk (.cons (.cmp .eq (.idx (.var 5) (.int 1)) (.var 2)) .nil)) (evE P c mk (.idx (.var 5) (.int 0))) [s0, .val (.lst (K.map kD)), .val T.d, s3, s4, s5]) (K.map kD) S = some ((K.filter fun p => decide (p.2 = T)).map fun p => D.str p.1, S) := by
    refine compD_fm fun p hp => ?_
    have q := Ty.eq (a := p.2) (b := T) (.inr (by omega))
    generalize K.map kD = Z
    cases z : decide (p.2 = T) with
    | true => rw [z] at q; simp [turnC, putT, putV, wipeE, evIfs, evT, evE, getV, kD, idxD, at0, at1, cmpD, q, kept_none]
    | false => rw [z] at q; simp [turnC, putT, putV, wipeE, evIfs, evT, evE, getV, kD, idxD, at0, at1, cmpD, q, kept_none]
  have ev : evI P c mk (.e (.var 1)) [s0, .val (.lst (K.map kD)), .val T.d, s3, s4, s5] S = some ((K.map kD, none), S) := by simp [evI, evE, getV, itemsD]
  have hz : decide ((K.map kD).length ≤ 16777216) = true := by rw [List.length_map]; exact decide_eq_true (by omega)
  simp only [lfn, evL, ev, Option.bind_some, hz, if_true, hc]
end
end HN

set_option maxHeartbeats 0
/-! Typed programs drawn by the laws: leaves and expressions. -/
namespace HN
open PySem L2
/-- _law_loop -/
def b86 : Ss := (.cons (.par [8, 9] (.cons (.bin .add (.str "h") (.bi .str (.cons (.bi .len (.cons (.var 1) .nil)) .nil))) (.cons (.bin .add (.str "x") (.bi .str (.cons (.bin .add (.bi .len (.cons (.var 1) .nil)) (.int 1)) .nil))) .nil))) (.cons (.set 4 (.bin .add (.var 1) (.frz (.disp (.cons (.tup (.cons (.var 8) (.cons (.tup (.cons (.str "fun") (.cons (.tup (.cons (.str "int") .nil)) (.cons (.var 2) .nil)))) .nil))) (.cons (.tup (.cons (.var 9) (.cons (.tup (.cons (.str "int") .nil)) .nil))) .nil)))))) (.cons (.set 5 (.tup (.cons (.str "call") (.cons (.tup (.cons (.str "name") (.cons (.var 8) .nil))) (.cons (.tup (.cons (.str "op") (.cons (.str "-") (.cons (.tup (.cons (.str "name") (.cons (.var 9) .nil))) (.cons (.tup (.cons (.str "num") (.cons (.int 1) .nil))) .nil))))) .nil))))) (.cons (.ite (.cmp .eq (.call 4 (.cons (.var 0) (.cons (.int 2) .nil))) (.int 0)) (.cons (.set 5 (.tup (.cons (.str "as") (.cons (.tup (.cons (.str "as") (.cons (.var 5) (.cons (.tup (.cons (.str "any") .nil)) .nil)))) (.cons (.var 2) .nil))))) .nil) .nil) (.cons (.ite (.cmp .eq (.call 4 (.cons (.var 0) (.cons (.int 3) .nil))) (.int 0)) (.cons (.set 5 (.tup (.cons (.str "print") (.cons (.tup (.cons (.str "name") (.cons (.var 9) .nil))) (.cons (.var 5) .nil))))) .nil) .nil) (.cons (.set 6 (.call 83 (.cons (.var 0) (.cons (.var 4) (.cons (.var 2) (.cons (.bin .sub (.var 3) (.int 1)) .nil)))))) (.cons (.set 7 (.tup (.cons (.str "if") (.cons (.tup (.cons (.str "op") (.cons (.str "<") (.cons (.tup (.cons (.str "name") (.cons (.var 9) .nil))) (.cons (.tup (.cons (.str "num") (.cons (.int 1) .nil))) .nil))))) (.cons (.var 6) (.cons (.var 5) .nil)))))) (.cons (.ret (.tup (.cons (.str "call") (.cons (.tup (.cons (.str "rec") (.cons (.var 8) (.cons (.var 9) (.cons (.tup (.cons (.str "int") .nil)) (.cons (.var 2) (.cons (.var 7) .nil))))))) (.cons (.tup (.cons (.str "num") (.cons (.call 4 (.cons (.var 0) (.cons (.int 6) .nil))) .nil))) .nil))))) .nil))))))))
abbrev fd86 : FD := ⟨4, 10, b86⟩
/-- _law_special -/
def b84 : Ss := (.cons (.ite (.cmp .eq (.idx (.var 2) (.int 0)) (.str "int")) (.cons (.set 4 (.idx (.frz (.disp (.cons (.str "+") (.cons (.str "-") (.cons (.str "*") .nil))))) (.call 4 (.cons (.var 0) (.cons (.int 3) .nil))))) (.cons (.set 5 (.call 83 (.cons (.var 0) (.cons (.var 1) (.cons (.var 2) (.cons (.bin .sub (.var 3) (.int 1)) .nil)))))) (.cons (.ret (.tup (.cons (.str "op") (.cons (.var 4) (.cons (.var 5) (.cons (.call 83 (.cons (.var 0) (.cons (.var 1) (.cons (.var 2) (.cons (.bin .sub (.var 3) (.int 1)) .nil))))) .nil)))))) .nil))) .nil) (.cons (.ite (.cmp .eq (.idx (.var 2) (.int 0)) (.str "bool")) (.cons (.set 5 (.call 83 (.cons (.var 0) (.cons (.var 1) (.cons (.tup (.cons (.str "int") .nil)) (.cons (.bin .sub (.var 3) (.int 1)) .nil)))))) (.cons (.ret (.tup (.cons (.str "op") (.cons (.idx (.frz (.disp (.cons (.str "<") (.cons (.str "==") .nil)))) (.call 4 (.cons (.var 0) (.cons (.int 2) .nil)))) (.cons (.var 5) (.cons (.call 81 (.cons (.var 0) (.cons (.var 1) (.cons (.tup (.cons (.str "int") .nil)) .nil)))) .nil)))))) .nil)) .nil) (.cons (.ite (.cmp .eq (.idx (.var 2) (.int 0)) (.str "fun")) (.cons (.set 6 (.bin .add (.str "x") (.bi .str (.cons (.bi .len (.cons (.var 1) .nil)) .nil)))) (.cons (.ret (.tup (.cons (.str "fun") (.cons (.var 6) (.cons (.idx (.var 2) (.int 1)) (.cons (.call 83 (.cons (.var 0) (.cons (.bin .add (.var 1) (.frz (.disp (.cons (.tup (.cons (.var 6) (.cons (.idx (.var 2) (.int 1)) .nil))) .nil)))) (.cons (.idx (.var 2) (.int 2)) (.cons (.bin .sub (.var 3) (.int 1)) .nil))))) .nil)))))) .nil)) .nil) (.cons (.ite (.cmp .eq (.idx (.var 2) (.int 0)) (.str "pair")) (.cons (.set 5 (.call 83 (.cons (.var 0) (.cons (.var 1) (.cons (.idx (.var 2) (.int 1)) (.cons (.bin .sub (.var 3) (.int 1)) .nil)))))) (.cons (.ret (.tup (.cons (.str "pair") (.cons (.var 5) (.cons (.call 83 (.cons (.var 0) (.cons (.var 1) (.cons (.idx (.var 2) (.int 2)) (.cons (.bin .sub (.var 3) (.int 1)) .nil))))) .nil))))) .nil)) .nil) (.cons (.ite (.cmp .eq (.idx (.var 2) (.int 0)) (.str "box")) (.cons (.ret (.tup (.cons (.str "box") (.cons (.call 83 (.cons (.var 0) (.cons (.var 1) (.cons (.idx (.var 2) (.int 1)) (.cons (.bin .sub (.var 3) (.int 1)) .nil))))) .nil)))) .nil) .nil) (.cons (.ite (.cmp .eq (.idx (.var 2) (.int 0)) (.str "unit")) (.cons (.set 7 (.call 79 (.cons (.var 0) (.cons (.int 1) .nil)))) (.cons (.set 5 (.call 83 (.cons (.var 0) (.cons (.var 1) (.cons (.tup (.cons (.str "box") (.cons (.var 7) .nil))) (.cons (.bin .sub (.var 3) (.int 1)) .nil)))))) (.cons (.ret (.tup (.cons (.str "put") (.cons (.var 5) (.cons (.call 81 (.cons (.var 0) (.cons (.var 1) (.cons (.var 7) .nil)))) .nil))))) .nil))) .nil) (.cons (.ret (.tup (.cons (.str "as") (.cons (.call 83 (.cons (.var 0) (.cons (.var 1) (.cons (.call 79 (.cons (.var 0) (.cons (.int 1) .nil))) (.cons (.bin .sub (.var 3) (.int 1)) .nil))))) (.cons (.tup (.cons (.str "any") .nil)) .nil))))) .nil)))))))
abbrev fd84 : FD := ⟨4, 8, b84⟩
/-- _law_taken -/
def b85 : Ss := (.cons (.set 4 (.call 4 (.cons (.var 0) (.cons (.int 4) .nil)))) (.cons (.set 5 (.call 79 (.cons (.var 0) (.cons (.int 1) .nil)))) (.cons (.ite (.cmp .eq (.var 4) (.int 0)) (.cons (.ret (.tup (.cons (.str "fst") (.cons (.call 83 (.cons (.var 0) (.cons (.var 1) (.cons (.tup (.cons (.str "pair") (.cons (.var 2) (.cons (.var 5) .nil)))) (.cons (.bin .sub (.var 3) (.int 1)) .nil))))) .nil)))) .nil) .nil) (.cons (.ite (.cmp .eq (.var 4) (.int 1)) (.cons (.ret (.tup (.cons (.str "snd") (.cons (.call 83 (.cons (.var 0) (.cons (.var 1) (.cons (.tup (.cons (.str "pair") (.cons (.var 5) (.cons (.var 2) .nil)))) (.cons (.bin .sub (.var 3) (.int 1)) .nil))))) .nil)))) .nil) .nil) (.cons (.ite (.cmp .eq (.var 4) (.int 2)) (.cons (.ret (.tup (.cons (.str "get") (.cons (.call 83 (.cons (.var 0) (.cons (.var 1) (.cons (.tup (.cons (.str "box") (.cons (.var 2) .nil))) (.cons (.bin .sub (.var 3) (.int 1)) .nil))))) .nil)))) .nil) .nil) (.cons (.set 6 (.call 83 (.cons (.var 0) (.cons (.var 1) (.cons (.tup (.cons (.str "fun") (.cons (.var 5) (.cons (.var 2) .nil)))) (.cons (.bin .sub (.var 3) (.int 1)) .nil)))))) (.cons (.ret (.tup (.cons (.str "call") (.cons (.var 6) (.cons (.call 83 (.cons (.var 0) (.cons (.var 1) (.cons (.var 5) (.cons (.bin .sub (.var 3) (.int 1)) .nil))))) .nil))))) .nil)))))))
abbrev fd85 : FD := ⟨4, 7, b85⟩
/-- _law_expression -/
def b83 : Ss := (.cons (.set 4 (.call 4 (.cons (.var 0) (.cons (.int 11) .nil)))) (.cons (.ite (.or (.cons (.cmp .lt (.var 3) (.int 1)) (.cons (.cmp .eq (.var 4) (.int 0)) .nil))) (.cons (.ret (.call 81 (.cons (.var 0) (.cons (.var 1) (.cons (.var 2) .nil))))) .nil) .nil) (.cons (.ite (.cmp .lt (.var 4) (.int 3)) (.cons (.ret (.call 84 (.cons (.var 0) (.cons (.var 1) (.cons (.var 2) (.cons (.var 3) .nil)))))) .nil) .nil) (.cons (.ite (.cmp .lt (.var 4) (.int 6)) (.cons (.ret (.call 85 (.cons (.var 0) (.cons (.var 1) (.cons (.var 2) (.cons (.var 3) .nil)))))) .nil) .nil) (.cons (.ite (.cmp .eq (.var 4) (.int 6)) (.cons (.ret (.call 86 (.cons (.var 0) (.cons (.var 1) (.cons (.var 2) (.cons (.var 3) .nil)))))) .nil) .nil) (.cons (.ite (.cmp .eq (.var 4) (.int 7)) (.cons (.set 6 (.var 2)) (.cons (.ite (.cmp .eq (.call 4 (.cons (.var 0) (.cons (.int 3) .nil))) (.int 0)) (.cons (.set 6 (.call 79 (.cons (.var 0) (.cons (.int 1) .nil)))) .nil) .nil) (.cons (.ret (.tup (.cons (.str "as") (.cons (.tup (.cons (.str "as") (.cons (.call 83 (.cons (.var 0) (.cons (.var 1) (.cons (.var 6) (.cons (.bin .sub (.var 3) (.int 1)) .nil))))) (.cons (.tup (.cons (.str "any") .nil)) .nil)))) (.cons (.var 2) .nil))))) .nil))) .nil) (.cons (.ite (.cmp .eq (.var 4) (.int 8)) (.cons (.set 7 (.call 83 (.cons (.var 0) (.cons (.var 1) (.cons (.tup (.cons (.str "bool") .nil)) (.cons (.bin .sub (.var 3) (.int 1)) .nil)))))) (.cons (.set 5 (.call 83 (.cons (.var 0) (.cons (.var 1) (.cons (.var 2) (.cons (.bin .sub (.var 3) (.int 1)) .nil)))))) (.cons (.ret (.tup (.cons (.str "if") (.cons (.var 7) (.cons (.var 5) (.cons (.call 83 (.cons (.var 0) (.cons (.var 1) (.cons (.var 2) (.cons (.bin .sub (.var 3) (.int 1)) .nil))))) .nil)))))) .nil))) .nil) (.cons (.ite (.cmp .eq (.var 4) (.int 9)) (.cons (.set 5 (.call 83 (.cons (.var 0) (.cons (.var 1) (.cons (.tup (.cons (.str "int") .nil)) (.cons (.bin .sub (.var 3) (.int 1)) .nil)))))) (.cons (.ret (.tup (.cons (.str "print") (.cons (.var 5) (.cons (.call 83 (.cons (.var 0) (.cons (.var 1) (.cons (.var 2) (.cons (.bin .sub (.var 3) (.int 1)) .nil))))) .nil))))) .nil)) .nil) (.cons (.par [8, 6] (.cons (.bin .add (.str "x") (.bi .str (.cons (.bi .len (.cons (.var 1) .nil)) .nil))) (.cons (.call 79 (.cons (.var 0) (.cons (.int 2) .nil))) .nil))) (.cons (.set 5 (.call 83 (.cons (.var 0) (.cons (.var 1) (.cons (.var 6) (.cons (.bin .sub (.var 3) (.int 1)) .nil)))))) (.cons (.ret (.tup (.cons (.str "let") (.cons (.var 8) (.cons (.var 5) (.cons (.call 83 (.cons (.var 0) (.cons (.bin .add (.var 1) (.frz (.disp (.cons (.tup (.cons (.var 8) (.cons (.var 6) .nil))) .nil)))) (.cons (.var 2) (.cons (.bin .sub (.var 3) (.int 1)) .nil))))) .nil)))))) .nil)))))))))))
abbrev fd83 : FD := ⟨4, 9, b83⟩
theorem ix_l {S : Store} {l : List D} {i : Int} : idxD S (.lst l) (.int i) = atI l i := rfl
theorem ix_t {S : Store} {l : List D} {i : Int} : idxD S (.tup l) (.int i) = atI l i := rfl
theorem add_k {K : List (Str × Ty)} (h : K.length ≤ 1000) (s : Str) (T : Ty) : binD .add (.lst (K.map kD)) (.lst [.tup [.str s, T.d]]) = some (.lst ((K ++ [(s, T)]).map kD)) := by
  show (if szOk ((K.map kD).length + 1) then _ else _) = _
  rw [if_pos (by unfold szOk; rw [List.length_map]; exact decide_eq_true (by omega))]
  simp [kD]
section
variable {P : Prg} {defs : Nat → Option FD}
theorem leaf_ok (h4 : defs 4 = some fd4) (h82 : defs 82 = some fd82) (h : defs 81 = some fd81) : ∀ (T : Ty) {n : Nat} {S : Store} {K : List (Str × Ty)}, Good S → KN K → K.length + T.h ≤ 60 → T.h + 4 ≤ n → ∃ e S', Good S' ∧ Out e (8 * T.tw) (T.h + 1) T.h ∧ callF P defs n 81 [.ref 1, .lst (K.map kD), T.d] S = some (Ex.d e, S')
  | T, 0, S, K, g, hK, hl, hn => by omega
  | T, 1, S, K, g, hK, hl, hn => by omega
  | T, 2, S, K, g, hK, hl, hn => by have := T.h_pos; omega
  | T, n + 3, S, K, g, hK, hl, hn => by
    have hp := T.h_pos
    have l0 := g.len
    have lenK : (K.map kD).length = K.length := List.length_map ..
    have nm := fun (s3 s4 s5 : Slot) (S : Store) => names_ok (P := P) (mk := (callP P defs (n + 2)).2) (c := callF P defs (n + 2)) (K := K) (T := T) (by omega) (by omega) (s0 := .val (.ref 1)) (s3 := s3) (s4 := s4) (s5 := s5) (S := S)
    -- what comes behind the names
    have rest : ∀ (N : List D) {S1 : Store}, Good S1 → ∃ e S', Good S' ∧ Out e (8 * T.tw) (T.h + 1) T.h ∧ exSs P (callF P defs (n + 2)) (callP P defs (n + 2)).2 (b81.drop 2) [.val (.ref 1), .val (.lst (K.map kD)), .val T.d, .val (.lst N), .un, .un] S1 = some (.rt (Ex.d e) S') := fun N S1 g1 => by
      have leafc : T.h = 1 → ∃ e S', Good S' ∧ Out e (8 * T.tw) (T.h + 1) T.h ∧ exSs P (callF P defs (n + 2)) (callP P defs (n + 2)).2 (b81.drop 2) [.val (.ref 1), .val (.lst (K.map kD)), .val T.d, .val (.lst N), .un, .un] S1 = some (.rt (Ex.d e) S') := fun hT => by
        obtain ⟨e, S2, g2, o, e2⟩ := const_ok (P := P) h4 h82 hT (n := n) g1
        refine ⟨e, S2, g2, o.mono (Nat.le_refl _) (by omega) (by omega), ?_⟩
        generalize K.map kD = Z
        cases T <;> first | (simp only [Ty.h] at hT; rename_i a; have := a.h_pos; omega) | (simp only [Ty.h] at hT; rename_i a b; have := a.h_pos; omega) | skip
        all_goals simp only [Ty.d] at e2 ⊢
        all_goals simp [runD, exSs, exS, evE, evT, evEs, evL, evI, evIfs, evAnd, evOr, evAndT, evOrT, startD, getV, putV, getO, putVs, putT, wipeE, idxD, sliceD, isAbs, partD, biD, one1, lenD, intD, absD, tupleD, max2D, maxD, maxI, intsD, isTD, tyD, isT, binD, cmpD, isD, n_non, n_tup, n_lst, n_int, n_str, n_bl, truD, lstAt, itemsD, forD, compD, turnF, turnC, kept_none, szOk, rg_nat, rangeL, at0, at1, at2, at3, at4, at5, at6, ix0, ix1, gc_same, gc_len, eq_int, eq_str, eq_bl, str_inj, str_beq, cut1, cut2, lr0, lr1, lr2, lr3, lr4, lr5, lr6, lr7, b81, Ss.drop, e2]
      cases T with
      | any => exact leafc rfl
      | int => exact leafc rfl
      | bool => exact leafc rfl
      | unit => exact leafc rfl
      | fn a b =>
        simp only [Ty.h] at hl hn
        have hk : K.length < 70 := by omega
        obtain ⟨e, S2, g2, o, e2⟩ := leaf_ok h4 h82 h b (n := n + 2) (K := K ++ [(xN K.length, a)]) g1 (hK.snoc (xN_ok hk) a) (by simp; omega) (by omega)
        refine ⟨.fn (xN K.length) a e, S2, g2, ⟨⟨xN_ok hk, o.gk⟩, by have := ew_fn (xN_ok hk) a e; have := o.ew; have := tw_pos a; rw [tw_fn]; omega, by have := o.ht; simp only [Ex.ht, Ty.h]; omega, fun t ht => ?_⟩, ?_⟩
        · rcases List.mem_cons.mp ht with rfl | ht
          · simp only [Ty.h]; omega
          · have := o.th t ht; simp only [Ty.h]; omega
        · have x1 := (str_k hk).1
          have x2 := x_add hk
          have x3 := add_k (K := K) (by omega) (xN K.length) a
          have x4 : lenD S1 (.lst (K.map kD)) = some (.int K.length) := by simp [lenD]
          generalize (K ++ [(xN K.length, a)]).map kD = Z2 at x3 e2
          generalize K.map kD = Z at x3 x4 ⊢
          simp [exSs, exS, evT, evE, evEs, evL, getV, putV, ix_t, at0, at1, at2, cmpD, eq_str, str_beq, b81, Ss.drop, Ty.d, biD, one1, x1, x2, x3, x4, e2, szOk, Ex.d]
      | pair a b =>
        simp only [Ty.h] at hl hn
        obtain ⟨e, S2, g2, o, e2⟩ := leaf_ok h4 h82 h a (n := n + 2) (K := K) g1 hK (by omega) (by omega)
        obtain ⟨f, S3, g3, o', e3⟩ := leaf_ok h4 h82 h b (n := n + 2) (K := K) g2 hK (by omega) (by omega)
        refine ⟨.two .pair e f, S3, g3, ⟨⟨o.gk, o'.gk⟩, by have := ew_two .pair e f; have := o.ew; have := o'.ew; rw [tw_pair]; omega, by have := o.ht; have := o'.ht; simp only [Ex.ht, Ty.h]; omega, fun t ht => ?_⟩, ?_⟩
        · rcases List.mem_append.mp ht with ht | ht
          · have := o.th t ht; simp only [Ty.h]; omega
          · have := o'.th t ht; simp only [Ty.h]; omega
        · generalize K.map kD = Z at e2 e3 ⊢
          simp [runD, exSs, exS, evE, evT, evEs, evL, evI, evIfs, evAnd, evOr, evAndT, evOrT, startD, getV, putV, getO, putVs, putT, wipeE, idxD, sliceD, isAbs, partD, biD, one1, lenD, intD, absD, tupleD, max2D, maxD, maxI, intsD, isTD, tyD, isT, binD, cmpD, isD, n_non, n_tup, n_lst, n_int, n_str, n_bl, truD, lstAt, itemsD, forD, compD, turnF, turnC, kept_none, szOk, rg_nat, rangeL, at0, at1, at2, at3, at4, at5, at6, ix0, ix1, gc_same, gc_len, eq_int, eq_str, eq_bl, str_inj, str_beq, cut1, cut2, lr0, lr1, lr2, lr3, lr4, lr5, lr6, lr7, b81, Ss.drop, Ty.d, e2, e3, Ex.d, U2.s]
      | box a =>
        simp only [Ty.h] at hl hn
        obtain ⟨e, S2, g2, o, e2⟩ := leaf_ok h4 h82 h a (n := n + 2) (K := K) g1 hK (by omega) (by omega)
        refine ⟨.un .box e, S2, g2, ⟨o.gk, by have := ew_un .box e; have := o.ew; rw [tw_box]; omega, by have := o.ht; simp only [Ex.ht, Ty.h]; omega, fun t ht => by have := o.th t ht; simp only [Ty.h]; omega⟩, ?_⟩
        generalize K.map kD = Z at e2 ⊢
        simp [runD, exSs, exS, evE, evT, evEs, evL, evI, evIfs, evAnd, evOr, evAndT, evOrT, startD, getV, putV, getO, putVs, putT, wipeE, idxD, sliceD, isAbs, partD, biD, one1, lenD, intD, absD, tupleD, max2D, maxD, maxI, intsD, isTD, tyD, isT, binD, cmpD, isD, n_non, n_tup, n_lst, n_int, n_str, n_bl, truD, lstAt, itemsD, forD, compD, turnF, turnC, kept_none, szOk, rg_nat, rangeL, at0, at1, at2, at3, at4, at5, at6, ix0, ix1, gc_same, gc_len, eq_int, eq_str, eq_bl, str_inj, str_beq, cut1, cut2, lr0, lr1, lr2, lr3, lr4, lr5, lr6, lr7, b81, Ss.drop, Ty.d, e2, Ex.d, U1.s]
    have start : ∀ S, exSs P (callF P defs (n + 2)) (callP P defs (n + 2)).2 b81 [.val (.ref 1), .val (.lst (K.map kD)), .val T.d, .un, .un, .un] S = exSs P (callF P defs (n + 2)) (callP P defs (n + 2)).2 (b81.drop 1) [.val (.ref 1), .val (.lst (K.map kD)), .val T.d, .val (.lst ((K.filter fun p => decide (p.2 = T)).map fun p => D.str p.1)), .un, .un] S := fun S => by
      show exSs P _ _ (.cons (.set 3 (.frz lfn)) (b81.drop 1)) _ S = _
      rw [exS_nx (ρ1 := [.val (.ref 1), .val (.lst (K.map kD)), .val T.d, .val (.lst ((K.filter fun p => decide (p.2 = T)).map fun p => D.str p.1)), .un, .un]) (S1 := S) (by
        simp only [exS, evE, nm, Option.map_some]
        rfl)]
    have hN : ∀ d ∈ (K.filter fun p => decide (p.2 = T)).map fun p => D.str p.1, ∃ s : Str, okN s ∧ d = .str s := fun d hd => by
      obtain ⟨p, hp, rfl⟩ := List.mem_map.mp hd
      exact ⟨p.1, hK p (List.mem_filter.mp hp).1, rfl⟩
    have hNl : ((K.filter fun p => decide (p.2 = T)).map fun p => D.str p.1).length ≤ K.length := by
      rw [List.length_map]; exact List.length_filter_le _ _
    generalize (K.filter fun p => decide (p.2 = T)).map (fun p => D.str p.1) = N at start hN hNl
    have d2 : b81.drop 1 = .cons (.ite (.and (.cons (.cmp .gt (.bi .len (.cons (.var 3) .nil)) (.int 0)) (.cons (.cmp .gt (.call 4 (.cons (.var 0) (.cons (.int 4) .nil))) (.int 0)) .nil))) (.cons (.ret (.tup (.cons (.str "name") (.cons (.idx (.var 3) (.call 4 (.cons (.var 0) (.cons (.bi .len (.cons (.var 3) .nil)) .nil)))) .nil)))) .nil) .nil) (b81.drop 2) := rfl
    by_cases hz : N = []
    · obtain ⟨e, S', g', o, e1⟩ := rest N g
      have l1 := g'.len
      refine ⟨e, S', g', o, ?_⟩
      rw [callF_on h]
      refine runD_len' rfl ?_ (by rw [l1, l0])
      show exSs P _ _ b81 [.val (.ref 1), .val (.lst (K.map kD)), .val T.d, .un, .un, .un] S = _
      rw [start, d2]
      generalize K.map kD = Z at e1 ⊢
      rw [exS_nx (ρ1 := [.val (.ref 1), .val (.lst Z), .val T.d, .val (.lst N), .un, .un]) (S1 := S) (by subst hz; simp [exS, evT, evAndT, evE, evEs, getV, biD, one1, lenD, cmpD, exSs])]
      exact e1
    · have hpos : 0 < N.length := List.length_pos_iff.mpr hz
      obtain ⟨r, S1, g1, r0, r9, e1⟩ := take_ok (P := P) (n := n + 1) h4 g (most := 4) (by decide) (by decide)
      by_cases hr : 0 < r
      · obtain ⟨j, S2, g2, j0, j9, e2⟩ := take_ok (P := P) (n := n + 1) h4 g1 (most := (N.length : Int)) (by omega) (by omega)
        have l2 := g2.len
        obtain ⟨k, rfl⟩ : ∃ k : Nat, j = k := ⟨j.toNat, by omega⟩
        have hk : k < N.length := by omega
        obtain ⟨s, hs, es⟩ := hN N[k] (List.getElem_mem hk)
        have ea : atI N (k : Int) = some (.str s) := atI_of (j := k) (by rw [List.getElem?_eq_getElem hk, es]) rfl
        refine ⟨.name s, S2, g2, ⟨hs, by have := ew_name hs; have := tw_pos T; omega, by simp [Ex.ht], by simp [Ex.notes]⟩, ?_⟩
        rw [callF_on h]
        refine runD_len' rfl ?_ (by rw [l2, l0])
        show exSs P _ _ b81 [.val (.ref 1), .val (.lst (K.map kD)), .val T.d, .un, .un, .un] S = _
        rw [start, d2]
        generalize K.map kD = Z
        have hpi : (0 : Int) < N.length := by omega
        simp [exSs, exS, evT, evAndT, evE, evEs, getV, biD, one1, lenD, cmpD, hpos, hpi, hr, e1, e2, ix_l, ea, szOk, Ex.d]
      · obtain ⟨e, S', g', o, e3⟩ := rest N g1
        have l1 := g'.len
        refine ⟨e, S', g', o, ?_⟩
        rw [callF_on h]
        refine runD_len' rfl ?_ (by rw [l1, l0])
        show exSs P _ _ b81 [.val (.ref 1), .val (.lst (K.map kD)), .val T.d, .un, .un, .un] S = _
        rw [start, d2]
        generalize K.map kD = Z at e3 ⊢
        have hpi : (0 : Int) < N.length := by omega
        rw [exS_nx (ρ1 := [.val (.ref 1), .val (.lst Z), .val T.d, .val (.lst N), .un, .un]) (S1 := S1) (by simp [exS, evT, evAndT, evE, evEs, getV, biD, one1, lenD, cmpD, exSs, hpos, hpi, hr, e1])]
        exact e3
end
end HN

set_option maxHeartbeats 0
/-! Typed programs drawn by the laws: expressions. -/
namespace HN
open PySem L2
def EW : Nat → Nat → Nat
  | 0, w => 8 * w
  | d + 1, w => 3 * EW d (w + 64) + 3 * w + 300
theorem EW_mono : ∀ (d : Nat) {w w' : Nat}, w ≤ w' → EW d w ≤ EW d w'
  | 0, w, w', h => by simp only [EW]; omega
  | d + 1, w, w', h => by
    have := EW_mono d (show w + 64 ≤ w' + 64 by omega)
    simp only [EW]; omega
theorem EW_leaf : ∀ (d w : Nat), 8 * w ≤ EW d w
  | 0, w => Nat.le_refl _
  | d + 1, w => by
    have := EW_leaf d (w + 64)
    simp only [EW]; omega
/-- an expression of this depth is drawn -/
def ExprAt (P : Prg) (defs : Nat → Option FD) (f d : Nat) : Prop := ∀ (T : Ty) (n : Nat) (S : Store) (K : List (Str × Ty)), Good S → KN K → K.length + 5 * d + max T.h 3 ≤ 50 → 3 * d + max T.h 3 + 10 ≤ n →
  ∃ e S', Good S' ∧ Out e (EW d T.tw) (max T.h 3 + 4 * d + 9) (max T.h 3 + d + 1) ∧ callF P defs n f [.ref 1, .lst (K.map kD), T.d, .int d] S = some (Ex.d e, S')
/-- one part of an expression: a type that is not much larger, a depth less -/
theorem ExprAt.sub {P : Prg} {defs : Nat → Option FD} {f d : Nat} (ih : ExprAt P defs f d) {T T' : Ty} {n : Nat} {S : Store} {K K' : List (Str × Ty)} (g : Good S) (hK : KN K') (hh : max T'.h 3 ≤ max T.h 3 + 1) (hw : T'.tw ≤ T.tw + 64) (hk : K'.length ≤ K.length + 2) (h1 : K.length + 5 * (d + 1) + max T.h 3 ≤ 50) (h2 : 3 * d + max T.h 3 + 11 ≤ n) :
    ∃ e S', Good S' ∧ Out e (EW d (T.tw + 64)) (max T.h 3 + 4 * d + 10) (max T.h 3 + d + 2) ∧ callF P defs n f [.ref 1, .lst (K'.map kD), T'.d, .int d] S = some (Ex.d e, S') := by
  obtain ⟨e, S', g', o, h⟩ := ih T' n S K' g hK (by omega) (by omega)
  exact ⟨e, S', g', o.mono (EW_mono d hw) (by omega) (by omega), h⟩
theorem sg3 {q : Int} (h0 : 0 ≤ q) (h1 : q < 3) : ∃ s : Str, okN s ∧ atI ([.str "+", .str "-", .str "*"] : List D) q = some (.str s) := by
  have c : q = 0 ∨ q = 1 ∨ q = 2 := by omega
  rcases c with rfl | rfl | rfl
  · exact ⟨"+", ⟨by decide +kernel, by decide +kernel⟩, rfl⟩
  · exact ⟨"-", ⟨by decide +kernel, by decide +kernel⟩, rfl⟩
  · exact ⟨"*", ⟨by decide +kernel, by decide +kernel⟩, rfl⟩
theorem sg2 {q : Int} (h0 : 0 ≤ q) (h1 : q < 2) : ∃ s : Str, okN s ∧ atI ([.str "<", .str "=="] : List D) q = some (.str s) := by
  have c : q = 0 ∨ q = 1 := by omega
  rcases c with rfl | rfl
  · exact ⟨"<", ⟨by decide +kernel, by decide +kernel⟩, rfl⟩
  · exact ⟨"==", ⟨by decide +kernel, by decide +kernel⟩, rfl⟩
section
variable {P : Prg} {defs : Nat → Option FD}
theorem spec_ok (h4 : defs 4 = some fd4) (h79 : defs 79 = some fd79) (h81 : defs 81 = some fd81) (h82 : defs 82 = some fd82) (h : defs 84 = some fd84) {d : Nat} (ih : ExprAt P defs 83 d) (T : Ty) {n : Nat} {S : Store} {K : List (Str × Ty)} {Di : Int} (hD : Di - 1 = d) (g : Good S) (hK : KN K) (hl : K.length + 5 * (d + 1) + max T.h 3 ≤ 50) (hn : 3 * d + max T.h 3 + 12 ≤ n) :
    ∃ e S', Good S' ∧ Out e (EW (d + 1) T.tw) (max T.h 3 + 4 * (d + 1) + 9) (max T.h 3 + (d + 1) + 1) ∧ callF P defs n 84 [.ref 1, .lst (K.map kD), T.d, .int Di] S = some (Ex.d e, S') := by
  obtain ⟨n, rfl⟩ : ∃ k, n = k + 2 := ⟨n - 2, by omega⟩
  have l0 := g.len
  have b1 : binD .sub (.int Di) (.int 1) = some (.int d) := by show some (D.int (Di - 1)) = _; rw [hD]
  have hew : EW (d + 1) T.tw = 3 * EW d (T.tw + 64) + 3 * T.tw + 300 := rfl
  have hpos := tw_pos T
  have fin : ∀ {e : Ex} {S' : Store}, Good S' → Out e (EW (d + 1) T.tw) (max T.h 3 + 4 * (d + 1) + 9) (max T.h 3 + (d + 1) + 1) → exSs P (callF P defs (n + 1)) (callP P defs (n + 1)).2 b84 [.val (.ref 1), .val (.lst (K.map kD)), .val T.d, .val (.int Di), .un, .un, .un, .un] S = some (.rt e.d S') →
      ∃ e S', Good S' ∧ Out e (EW (d + 1) T.tw) (max T.h 3 + 4 * (d + 1) + 9) (max T.h 3 + (d + 1) + 1) ∧ callF P defs (n + 2) 84 [.ref 1, .lst (K.map kD), T.d, .int Di] S = some (Ex.d e, S') := fun {e S'} g' o q => by
    refine ⟨e, S', g', o, ?_⟩
    rw [callF_on h]
    exact runD_len' rfl q (by rw [g'.len, l0])
  cases T with
  | int =>
    obtain ⟨r, S1, g1, r0, r9, e1⟩ := take_ok (P := P) (n := n) h4 g (most := 3) (by decide) (by decide)
    obtain ⟨s, hs, es⟩ := sg3 r0 r9
    obtain ⟨a, S2, g2, o1, e2⟩ := ih.sub (T := .int) (T' := .int) (n := n + 1) (K := K) g1 hK (by omega) (by omega) (by omega) hl (by omega)
    obtain ⟨b, S3, g3, o2, e3⟩ := ih.sub (T := .int) (T' := .int) (n := n + 1) (K := K) g2 hK (by omega) (by omega) (by omega) hl (by omega)
    refine fin (e := .bin false s a b) g3 ⟨⟨hs, o1.gk, o2.gk⟩, by have := ew_bin false hs a b; have := o1.ew; have := o2.ew; omega, by have := o1.ht; have := o2.ht; simp only [Ex.ht]; omega, fun t ht => ?_⟩ ?_
    · rcases List.mem_append.mp ht with ht | ht
      · have := o1.th t ht; omega
      · have := o2.th t ht; omega
    · generalize K.map kD = Z at e2 e3 ⊢
      simp only [Ty.d] at e2 e3
      simp [exSs, exS, evT, evAndT, evOrT, evE, evEs, evL, evOr, evAnd, getV, putV, putVs, ix_t, ix_l, at0, at1, at2, at3, cmpD, eq_str, eq_int, str_beq, biD, one1, szOk, truD, b84, Ty.d, e1, es, e2, e3, b1, Ex.d]
  | bool =>
    obtain ⟨a, S1, g1, o1, e1⟩ := ih.sub (T := .bool) (T' := .int) (n := n + 1) (K := K) g hK (by simp [Ty.h]) (by rw [tw_int]; omega) (by omega) hl (by omega)
    obtain ⟨r, S2, g2, r0, r9, e2⟩ := take_ok (P := P) (n := n) h4 g1 (most := 2) (by decide) (by decide)
    obtain ⟨s, hs, es⟩ := sg2 r0 r9
    obtain ⟨b, S3, g3, o2, e3⟩ := leaf_ok (P := P) h4 h82 h81 .int (n := n + 1) (K := K) g2 hK (by simp [Ty.h] at hl ⊢; omega) (by simp [Ty.h]; omega)
    have hv := EW_leaf d (Ty.tw .bool + 64)
    refine fin (e := .bin false s a b) g3 ⟨⟨hs, o1.gk, o2.gk⟩, by have := ew_bin false hs a b; have := o1.ew; have := o2.ew; rw [tw_int] at this; omega, by have := o1.ht; have := o2.ht; simp only [Ex.ht, Ty.h] at *; omega, fun t ht => ?_⟩ ?_
    · rcases List.mem_append.mp ht with ht | ht
      · have := o1.th t ht; omega
      · have := o2.th t ht; simp only [Ty.h] at this; omega
    · generalize K.map kD = Z at e1 e3 ⊢
      simp only [Ty.d] at e1 e3
      simp [exSs, exS, evT, evAndT, evOrT, evE, evEs, evL, evOr, evAnd, getV, putV, putVs, ix_t, ix_l, at0, at1, at2, at3, cmpD, eq_str, eq_int, str_beq, biD, one1, szOk, truD, b84, Ty.d, e1, es, e2, e3, b1, Ex.d]
  | fn A B =>
    have hk : K.length < 70 := by omega
    obtain ⟨a, S1, g1, o1, e1⟩ := ih.sub (T := .fn A B) (T' := B) (n := n + 1) (K := K) (K' := K ++ [(xN K.length, A)]) g (hK.snoc (xN_ok hk) A) (by simp only [Ty.h]; omega) (by rw [tw_fn]; omega) (by simp) hl (by omega)
    refine fin (e := .fn (xN K.length) A a) g1 ⟨⟨xN_ok hk, o1.gk⟩, by have := ew_fn (xN_ok hk) A a; have := o1.ew; have := tw_fn A B; omega, by have := o1.ht; simp only [Ex.ht]; omega, fun t ht => ?_⟩ ?_
    · rcases List.mem_cons.mp ht with rfl | ht
      · simp only [Ty.h]; omega
      · have := o1.th t ht; omega
    · have x1 := (str_k hk).1
      have x2 := x_add hk
      have x3 := add_k (K := K) (by omega) (xN K.length) A
      have x4 : lenD S (.lst (K.map kD)) = some (.int K.length) := by simp [lenD]
      generalize (K ++ [(xN K.length, A)]).map kD = Z2 at x3 e1
      generalize K.map kD = Z at x3 x4 ⊢
      simp [exSs, exS, evT, evAndT, evOrT, evE, evEs, evL, evOr, evAnd, getV, putV, putVs, ix_t, ix_l, at0, at1, at2, at3, cmpD, eq_str, eq_int, str_beq, biD, one1, szOk, truD, b84, Ty.d, x1, x2, x3, x4, e1, b1, Ex.d]
  | pair A B =>
    obtain ⟨a, S1, g1, o1, e1⟩ := ih.sub (T := .pair A B) (T' := A) (n := n + 1) (K := K) g hK (by simp only [Ty.h]; omega) (by rw [tw_pair]; omega) (by omega) hl (by omega)
    obtain ⟨b, S2, g2, o2, e2⟩ := ih.sub (T := .pair A B) (T' := B) (n := n + 1) (K := K) g1 hK (by simp only [Ty.h]; omega) (by rw [tw_pair]; omega) (by omega) hl (by omega)
    refine fin (e := .two .pair a b) g2 ⟨⟨o1.gk, o2.gk⟩, by have := ew_two .pair a b; have := o1.ew; have := o2.ew; omega, by have := o1.ht; have := o2.ht; simp only [Ex.ht]; omega, fun t ht => ?_⟩ ?_
    · rcases List.mem_append.mp ht with ht | ht
      · have := o1.th t ht; omega
      · have := o2.th t ht; omega
    · generalize K.map kD = Z at e1 e2 ⊢
      simp [exSs, exS, evT, evAndT, evOrT, evE, evEs, evL, evOr, evAnd, getV, putV, putVs, ix_t, ix_l, at0, at1, at2, at3, cmpD, eq_str, eq_int, str_beq, biD, one1, szOk, truD, b84, Ty.d, e1, e2, b1, Ex.d, U2.s]
  | box A =>
    obtain ⟨a, S1, g1, o1, e1⟩ := ih.sub (T := .box A) (T' := A) (n := n + 1) (K := K) g hK (by simp only [Ty.h]; omega) (by rw [tw_box]; omega) (by omega) hl (by omega)
    refine fin (e := .un .box a) g1 ⟨o1.gk, by have := ew_un .box a; have := o1.ew; omega, by have := o1.ht; simp only [Ex.ht]; omega, fun t ht => by have := o1.th t ht; omega⟩ ?_
    generalize K.map kD = Z at e1 ⊢
    simp [exSs, exS, evT, evAndT, evOrT, evE, evEs, evL, evOr, evAnd, getV, putV, putVs, ix_t, ix_l, at0, at1, at2, at3, cmpD, eq_str, eq_int, str_beq, biD, one1, szOk, truD, b84, Ty.d, e1, b1, Ex.d, U1.s]
  | unit =>
    obtain ⟨I, S1, g1, hI, e1⟩ := type79_ok (P := P) h4 h79 1 1 (n := n + 1) g (by decide) (by omega)
    have wI := tw_h (k := 2) hI
    obtain ⟨a, S2, g2, o1, e2⟩ := ih.sub (T := .unit) (T' := .box I) (n := n + 1) (K := K) g1 hK (by simp only [Ty.h]; omega) (by rw [tw_box]; omega) (by omega) hl (by omega)
    obtain ⟨b, S3, g3, o2, e3⟩ := leaf_ok (P := P) h4 h82 h81 I (n := n + 1) (K := K) g2 hK (by omega) (by omega)
    have hv := EW_leaf d (Ty.tw .unit + 64)
    refine fin (e := .two .put a b) g3 ⟨⟨o1.gk, o2.gk⟩, by have := ew_two .put a b; have := o1.ew; have := o2.ew; omega, by have := o1.ht; have := o2.ht; simp only [Ex.ht]; omega, fun t ht => ?_⟩ ?_
    · rcases List.mem_append.mp ht with ht | ht
      · have := o1.th t ht; omega
      · have := o2.th t ht; omega
    · generalize K.map kD = Z at e2 e3 ⊢
      simp only [Ty.d] at e2
      simp [exSs, exS, evT, evAndT, evOrT, evE, evEs, evL, evOr, evAnd, getV, putV, putVs, ix_t, ix_l, at0, at1, at2, at3, cmpD, eq_str, eq_int, str_beq, biD, one1, szOk, truD, b84, Ty.d, e1, e2, e3, b1, Ex.d, U2.s]
  | any =>
    obtain ⟨I, S1, g1, hI, e1⟩ := type79_ok (P := P) h4 h79 1 1 (n := n + 1) g (by decide) (by omega)
    have wI := tw_h (k := 2) hI
    obtain ⟨a, S2, g2, o1, e2⟩ := ih.sub (T := .any) (T' := I) (n := n + 1) (K := K) g1 hK (by omega) (by omega) (by omega) hl (by omega)
    refine fin (e := .as a .any) g2 ⟨o1.gk, by have := ew_as .any a; have := o1.ew; omega, by have := o1.ht; simp only [Ex.ht]; omega, fun t ht => ?_⟩ ?_
    · rcases List.mem_cons.mp ht with rfl | ht
      · simp only [Ty.h]; omega
      · have := o1.th t ht; omega
    · generalize K.map kD = Z at e2 ⊢
      simp [exSs, exS, evT, evAndT, evOrT, evE, evEs, evL, evOr, evAnd, getV, putV, putVs, ix_t, ix_l, at0, at1, at2, at3, cmpD, eq_str, eq_int, str_beq, biD, one1, szOk, truD, b84, Ty.d, e1, e2, b1, Ex.d]
theorem taken_ok (h4 : defs 4 = some fd4) (h79 : defs 79 = some fd79) (h : defs 85 = some fd85) {d : Nat} (ih : ExprAt P defs 83 d) (T : Ty) {n : Nat} {S : Store} {K : List (Str × Ty)} {Di : Int} (hD : Di - 1 = d) (g : Good S) (hK : KN K) (hl : K.length + 5 * (d + 1) + max T.h 3 ≤ 50) (hn : 3 * d + max T.h 3 + 12 ≤ n) :
    ∃ e S', Good S' ∧ Out e (EW (d + 1) T.tw) (max T.h 3 + 4 * (d + 1) + 9) (max T.h 3 + (d + 1) + 1) ∧ callF P defs n 85 [.ref 1, .lst (K.map kD), T.d, .int Di] S = some (Ex.d e, S') := by
  obtain ⟨n, rfl⟩ : ∃ k, n = k + 2 := ⟨n - 2, by omega⟩
  have l0 := g.len
  have b1 : binD .sub (.int Di) (.int 1) = some (.int d) := by show some (D.int (Di - 1)) = _; rw [hD]
  have hew : EW (d + 1) T.tw = 3 * EW d (T.tw + 64) + 3 * T.tw + 300 := rfl
  obtain ⟨r, S1, g1, r0, r9, e1⟩ := take_ok (P := P) (n := n) h4 g (most := 4) (by decide) (by decide)
  obtain ⟨I, S2, g2, hI, e2⟩ := type79_ok (P := P) h4 h79 1 1 (n := n + 1) g1 (by decide) (by omega)
  have wI := tw_h (k := 2) hI
  have c : r = 0 ∨ r = 1 ∨ r = 2 ∨ r = 3 := by omega
  rcases c with rfl | rfl | rfl | rfl
  · obtain ⟨a, S3, g3, o1, e3⟩ := ih.sub (T := T) (T' := .pair T I) (n := n + 1) (K := K) g2 hK (by simp only [Ty.h]; omega) (by rw [tw_pair]; omega) (by omega) hl (by omega)
    have l3 := g3.len
    refine ⟨.un .fst a, S3, g3, ⟨o1.gk, by have := ew_un .fst a; have := o1.ew; omega, by have := o1.ht; simp only [Ex.ht]; omega, fun t ht => by have := o1.th t ht; omega⟩, ?_⟩
    rw [callF_on h]
    refine runD_len' rfl ?_ (by rw [l3, l0])
    show exSs P _ _ b85 [.val (.ref 1), .val (.lst (K.map kD)), .val T.d, .val (.int Di), .un, .un, .un] S = _
    generalize K.map kD = Z at e3 ⊢
    simp only [Ty.d] at e3
    simp [exSs, exS, evT, evAndT, evOrT, evE, evEs, evL, evOr, evAnd, getV, putV, putVs, ix_t, ix_l, at0, at1, at2, at3, cmpD, eq_str, eq_int, str_beq, biD, one1, szOk, truD, b85, e1, e2, e3, b1, Ex.d, U1.s]
  · obtain ⟨a, S3, g3, o1, e3⟩ := ih.sub (T := T) (T' := .pair I T) (n := n + 1) (K := K) g2 hK (by simp only [Ty.h]; omega) (by rw [tw_pair]; omega) (by omega) hl (by omega)
    have l3 := g3.len
    refine ⟨.un .snd a, S3, g3, ⟨o1.gk, by have := ew_un .snd a; have := o1.ew; omega, by have := o1.ht; simp only [Ex.ht]; omega, fun t ht => by have := o1.th t ht; omega⟩, ?_⟩
    rw [callF_on h]
    refine runD_len' rfl ?_ (by rw [l3, l0])
    show exSs P _ _ b85 [.val (.ref 1), .val (.lst (K.map kD)), .val T.d, .val (.int Di), .un, .un, .un] S = _
    generalize K.map kD = Z at e3 ⊢
    simp only [Ty.d] at e3
    simp [exSs, exS, evT, evAndT, evOrT, evE, evEs, evL, evOr, evAnd, getV, putV, putVs, ix_t, ix_l, at0, at1, at2, at3, cmpD, eq_str, eq_int, str_beq, biD, one1, szOk, truD, b85, e1, e2, e3, b1, Ex.d, U1.s]
  · obtain ⟨a, S3, g3, o1, e3⟩ := ih.sub (T := T) (T' := .box T) (n := n + 1) (K := K) g2 hK (by simp only [Ty.h]; omega) (by rw [tw_box]; omega) (by omega) hl (by omega)
    have l3 := g3.len
    refine ⟨.un .get a, S3, g3, ⟨o1.gk, by have := ew_un .get a; have := o1.ew; omega, by have := o1.ht; simp only [Ex.ht]; omega, fun t ht => by have := o1.th t ht; omega⟩, ?_⟩
    rw [callF_on h]
    refine runD_len' rfl ?_ (by rw [l3, l0])
    show exSs P _ _ b85 [.val (.ref 1), .val (.lst (K.map kD)), .val T.d, .val (.int Di), .un, .un, .un] S = _
    generalize K.map kD = Z at e3 ⊢
    simp only [Ty.d] at e3
    simp [exSs, exS, evT, evAndT, evOrT, evE, evEs, evL, evOr, evAnd, getV, putV, putVs, ix_t, ix_l, at0, at1, at2, at3, cmpD, eq_str, eq_int, str_beq, biD, one1, szOk, truD, b85, e1, e2, e3, b1, Ex.d, U1.s]
  · obtain ⟨a, S3, g3, o1, e3⟩ := ih.sub (T := T) (T' := .fn I T) (n := n + 1) (K := K) g2 hK (by simp only [Ty.h]; omega) (by rw [tw_fn]; omega) (by omega) hl (by omega)
    obtain ⟨b, S4, g4, o2, e4⟩ := ih.sub (T := T) (T' := I) (n := n + 1) (K := K) g3 hK (by omega) (by omega) (by omega) hl (by omega)
    have l4 := g4.len
    refine ⟨.two .call a b, S4, g4, ⟨⟨o1.gk, o2.gk⟩, by have := ew_two .call a b; have := o1.ew; have := o2.ew; omega, by have := o1.ht; have := o2.ht; simp only [Ex.ht]; omega, fun t ht => ?_⟩, ?_⟩
    · rcases List.mem_append.mp ht with ht | ht
      · have := o1.th t ht; omega
      · have := o2.th t ht; omega
    · rw [callF_on h]
      refine runD_len' rfl ?_ (by rw [l4, l0])
      show exSs P _ _ b85 [.val (.ref 1), .val (.lst (K.map kD)), .val T.d, .val (.int Di), .un, .un, .un] S = _
      generalize K.map kD = Z at e3 e4 ⊢
      simp only [Ty.d] at e3
      simp [exSs, exS, evT, evAndT, evOrT, evE, evEs, evL, evOr, evAnd, getV, putV, putVs, ix_t, ix_l, at0, at1, at2, at3, cmpD, eq_str, eq_int, str_beq, biD, one1, szOk, truD, b85, e1, e2, e3, e4, b1, Ex.d, U2.s]
end
end HN

set_option maxHeartbeats 0
/-! Typed programs drawn by the laws: loops, all forms. -/
namespace HN
open PySem L2
theorem add_k2 {K : List (Str × Ty)} (h : K.length ≤ 1000) (s t : Str) (T U : Ty) : binD .add (.lst (K.map kD)) (.lst [.tup [.str s, T.d], .tup [.str t, U.d]]) = some (.lst ((K ++ [(s, T), (t, U)]).map kD)) := by
  show (if szOk ((K.map kD).length + 2) then _ else _) = _
  rw [if_pos (by unfold szOk; rw [List.length_map]; exact decide_eq_true (by omega))]
  simp [kD]
theorem k_minus : okN "-" := ⟨by decide +kernel, by decide +kernel⟩
theorem k_lt : okN "<" := ⟨by decide +kernel, by decide +kernel⟩
section
variable {P : Prg} {defs : Nat → Option FD}
theorem loop_ok (h4 : defs 4 = some fd4) (h : defs 86 = some fd86) {d : Nat} (ih : ExprAt P defs 83 d) (T : Ty) {n : Nat} {S : Store} {K : List (Str × Ty)} {Di : Int} (hD : Di - 1 = d) (g : Good S) (hK : KN K) (hl : K.length + 5 * (d + 1) + max T.h 3 ≤ 50) (hn : 3 * d + max T.h 3 + 12 ≤ n) :
    ∃ e S', Good S' ∧ Out e (EW (d + 1) T.tw) (max T.h 3 + 4 * (d + 1) + 9) (max T.h 3 + (d + 1) + 1) ∧ callF P defs n 86 [.ref 1, .lst (K.map kD), T.d, .int Di] S = some (Ex.d e, S') := by
  obtain ⟨n, rfl⟩ : ∃ k, n = k + 2 := ⟨n - 2, by omega⟩
  have l0 := g.len
  have b1 : binD .sub (.int Di) (.int 1) = some (.int d) := by show some (D.int (Di - 1)) = _; rw [hD]
  have hew : EW (d + 1) T.tw = 3 * EW d (T.tw + 64) + 3 * T.tw + 300 := rfl
  have hk : K.length < 60 := by omega
  have okh := hN_ok (k := K.length) (by omega)
  have okx := xN_ok (k := K.length + 1) (by omega)
  obtain ⟨r, S1, g1, r0, r9, e1⟩ := take_ok (P := P) (n := n) h4 g (most := 2) (by decide) (by decide)
  obtain ⟨q, S2, g2, q0, q9, e2⟩ := take_ok (P := P) (n := n) h4 g1 (most := 3) (by decide) (by decide)
  have kn : KN (K ++ [(hN K.length, .fn .int T), (xN (K.length + 1), .int)]) := fun p hp => by
    rcases List.mem_append.mp hp with hp | hp
    · exact hK p hp
    · simp at hp
      rcases hp with rfl | rfl
      · exact okh
      · exact okx
  obtain ⟨a, S3, g3, o1, e3⟩ := ih.sub (T := T) (T' := T) (n := n + 1) (K := K) (K' := K ++ [(hN K.length, .fn .int T), (xN (K.length + 1), .int)]) g2 kn (by omega) (by omega) (by simp) hl (by omega)
  obtain ⟨j, S4, g4, j0, j9, e4⟩ := take_ok (P := P) (n := n) h4 g3 (most := 6) (by decide) (by decide)
  have l4 := g4.len
  have n1ok : (Ex.num 1).gk := by show (0 : Int) ≤ 1 ∧ (1 : Int) < 99; decide
  obtain ⟨ag0, k0, w0, t0, n0, a0⟩ : ∃ ag0 : Ex, ag0.gk ∧ ag0.ew ≤ 104 ∧ ag0.ht = 3 ∧ ag0.notes = [] ∧ ag0.d = .tup [.str "call", .tup [.str "name", .str (hN K.length)], .tup [.str "op", .str "-", .tup [.str "name", .str (xN (K.length + 1))], .tup [.str "num", .int 1]]] := by
    refine ⟨.two .call (.name (hN K.length)) (.bin false "-" (.name (xN (K.length + 1))) (.num 1)), ⟨okh, k_minus, okx, n1ok⟩, ?_, rfl, rfl, rfl⟩
    have := ew_two .call (.name (hN K.length)) (.bin false "-" (.name (xN (K.length + 1))) (.num 1))
    have := ew_bin false k_minus (.name (xN (K.length + 1))) (.num 1)
    have := ew_name okh
    have := ew_name okx
    have := ew_num (i := 1) (by decide)
    omega
  obtain ⟨ag1, k1, w1, t1, n1, d1⟩ : ∃ ag1 : Ex, ag1.gk ∧ ag1.ew ≤ 118 + T.tw ∧ ag1.ht ≤ 5 ∧ (∀ t ∈ ag1.notes, t.h ≤ max T.h 3) ∧ ag1.d = if r = 0 then .tup [.str "as", .tup [.str "as", ag0.d, .tup [.str "any"]], T.d] else ag0.d := by
    by_cases hr : r = 0
    · refine ⟨.as (.as ag0 .any) T, k0, ?_, by simp only [Ex.ht]; omega, ?_, by simp [hr, Ex.d, Ty.d]⟩
      · have := ew_as T (.as ag0 .any)
        have := ew_as .any ag0
        rw [tw_any] at this
        omega
      · intro t ht
        simp [Ex.notes, n0] at ht
        rcases ht with rfl | rfl
        · omega
        · simp only [Ty.h]; omega
    · exact ⟨ag0, k0, by omega, by omega, by simp [n0], by simp [hr]⟩
  obtain ⟨ag2, k2, w2, t2, n2, d2⟩ : ∃ ag2 : Ex, ag2.gk ∧ ag2.ew ≤ 155 + T.tw ∧ ag2.ht ≤ 6 ∧ (∀ t ∈ ag2.notes, t.h ≤ max T.h 3) ∧ ag2.d = if q = 0 then .tup [.str "print", .tup [.str "name", .str (xN (K.length + 1))], ag1.d] else ag1.d := by
    by_cases hq : q = 0
    · refine ⟨.two .print (.name (xN (K.length + 1))) ag1, ⟨okx, k1⟩, ?_, by simp [Ex.ht]; omega, fun t ht => n1 t (by simpa [Ex.notes] using ht), by simp [hq, Ex.d, U2.s]⟩
      have := ew_two .print (.name (xN (K.length + 1))) ag1
      have := ew_name okx
      omega
    · exact ⟨ag1, k1, by omega, by omega, n1, by simp [hq]⟩
  refine ⟨.two .call (.rc (hN K.length) (xN (K.length + 1)) .int T (.cond (.bin false "<" (.name (xN (K.length + 1))) (.num 1)) a ag2)) (.num j), S4, g4, ⟨⟨⟨okh, okx, ⟨k_lt, okx, n1ok⟩, o1.gk, k2⟩, j0, by omega⟩, ?_, ?_, fun t ht => ?_⟩, ?_⟩
  · have := ew_two .call (.rc (hN K.length) (xN (K.length + 1)) .int T (.cond (.bin false "<" (.name (xN (K.length + 1))) (.num 1)) a ag2)) (.num j)
    have := ew_rc okh okx .int T (.cond (.bin false "<" (.name (xN (K.length + 1))) (.num 1)) a ag2)
    rw [tw_int] at this
    have := ew_cond (.bin false "<" (.name (xN (K.length + 1))) (.num 1)) a ag2
    have := ew_bin false k_lt (.name (xN (K.length + 1))) (.num 1)
    have := ew_name okx
    have := ew_num (i := 1) (by decide)
    have := ew_num (i := j) ⟨j0, by omega⟩
    have := o1.ew
    omega
  · have := o1.ht
    simp only [Ex.ht]
    omega
  · simp [Ex.notes] at ht
    rcases ht with rfl | rfl | ht | ht
    · simp only [Ty.h]; omega
    · omega
    · have := o1.th t ht; omega
    · have := n2 t ht; omega
  · have x1 := (str_k (k := K.length) (by omega)).1
    have x1' : strD (.int ((K.length : Int) + 1)) = some (.str (tS (K.length + 1))) := by
      rw [show ((K.length : Int) + 1) = ((K.length + 1 : Nat) : Int) by omega]
      exact (str_k (by omega)).1
    have x2 := h_add (k := K.length) (by omega)
    have x2' := x_add (k := K.length + 1) (by omega)
    have x3 := add_k2 (K := K) (by omega) (hN K.length) (xN (K.length + 1)) (.fn .int T) .int
    simp only [Ty.d] at x3
    have x4 : lenD S (.lst (K.map kD)) = some (.int K.length) := by simp [lenD]
    have b2 : binD .add (.int K.length) (.int 1) = some (.int ((K.length : Int) + 1)) := rfl
    rw [callF_on h]
    refine runD_len' rfl ?_ (by rw [l4, l0])
    show exSs P _ _ b86 [.val (.ref 1), .val (.lst (K.map kD)), .val T.d, .val (.int Di), .un, .un, .un, .un, .un, .un] S = _
    generalize (K ++ [(hN K.length, Ty.fn .int T), (xN (K.length + 1), Ty.int)]).map kD = Z2 at x3 e3
    generalize K.map kD = Z at x3 x4 ⊢
    have par : exS P (callF P defs (n + 1)) (callP P defs (n + 1)).2 (.par [8, 9] (.cons (.bin .add (.str "h") (.bi .str (.cons (.bi .len (.cons (.var 1) .nil)) .nil))) (.cons (.bin .add (.str "x") (.bi .str (.cons (.bin .add (.bi .len (.cons (.var 1) .nil)) (.int 1)) .nil))) .nil))) [.val (.ref 1), .val (.lst Z), .val T.d, .val (.int Di), .un, .un, .un, .un, .un, .un] S = some (.nx [.val (.ref 1), .val (.lst Z), .val T.d, .val (.int Di), .un, .un, .un, .un, .val (.str (hN K.length)), .val (.str (xN (K.length + 1)))] S) := by
      simp [exSs, exS, evT, evAndT, evOrT, evE, evEs, evL, evOr, evAnd, getV, putV, putVs, ix_t, ix_l, at0, at1, at2, at3, cmpD, eq_str, eq_int, str_beq, biD, one1, szOk, truD, x1, x1', x2, x2', x4, b2]
    generalize hN K.length = sh at x2 x3 a0 d1 d2 par ⊢
    generalize xN (K.length + 1) = sx at x2' x3 a0 d1 d2 par ⊢
    show exSs P _ _ (.cons _ (b86.drop 1)) _ S = _
    rw [exS_nx par]
    simp only [b86, Ss.drop]
    rw [exS_nx (ρ1 := [.val (.ref 1), .val (.lst Z), .val T.d, .val (.int Di), .val (.lst Z2), .un, .un, .un, .val (.str sh), .val (.str sx)]) (S1 := S) (by simp [exSs, exS, evT, evAndT, evOrT, evE, evEs, evL, evOr, evAnd, getV, putV, putVs, ix_t, ix_l, at0, at1, at2, at3, cmpD, eq_str, eq_int, str_beq, biD, one1, szOk, truD, x3])]
    rw [exS_nx (ρ1 := [.val (.ref 1), .val (.lst Z), .val T.d, .val (.int Di), .val (.lst Z2), .val ag0.d, .un, .un, .val (.str sh), .val (.str sx)]) (S1 := S) (by rw [a0]; simp [exSs, exS, evT, evAndT, evOrT, evE, evEs, evL, evOr, evAnd, getV, putV, putVs, ix_t, ix_l, at0, at1, at2, at3, cmpD, eq_str, eq_int, str_beq, biD, one1, szOk, truD])]
    rw [exS_nx (ρ1 := [.val (.ref 1), .val (.lst Z), .val T.d, .val (.int Di), .val (.lst Z2), .val ag1.d, .un, .un, .val (.str sh), .val (.str sx)]) (S1 := S1) (by
      rw [d1]
      by_cases hr : r = 0
      · rw [hr] at e1
        simp [exSs, exS, evT, evAndT, evOrT, evE, evEs, evL, evOr, evAnd, getV, putV, putVs, ix_t, ix_l, at0, at1, at2, at3, cmpD, eq_str, eq_int, str_beq, biD, one1, szOk, truD, e1, hr]
      · simp [exSs, exS, evT, evAndT, evOrT, evE, evEs, evL, evOr, evAnd, getV, putV, putVs, ix_t, ix_l, at0, at1, at2, at3, cmpD, eq_str, eq_int, str_beq, biD, one1, szOk, truD, e1, hr])]
    rw [exS_nx (ρ1 := [.val (.ref 1), .val (.lst Z), .val T.d, .val (.int Di), .val (.lst Z2), .val ag2.d, .un, .un, .val (.str sh), .val (.str sx)]) (S1 := S2) (by
      rw [d2]
      by_cases hq : q = 0
      · rw [hq] at e2
        simp [exSs, exS, evT, evAndT, evOrT, evE, evEs, evL, evOr, evAnd, getV, putV, putVs, ix_t, ix_l, at0, at1, at2, at3, cmpD, eq_str, eq_int, str_beq, biD, one1, szOk, truD, e2, hq]
      · simp [exSs, exS, evT, evAndT, evOrT, evE, evEs, evL, evOr, evAnd, getV, putV, putVs, ix_t, ix_l, at0, at1, at2, at3, cmpD, eq_str, eq_int, str_beq, biD, one1, szOk, truD, e2, hq])]
    rw [exS_nx (ρ1 := [.val (.ref 1), .val (.lst Z), .val T.d, .val (.int Di), .val (.lst Z2), .val ag2.d, .val a.d, .un, .val (.str sh), .val (.str sx)]) (S1 := S3) (by simp [exSs, exS, evT, evAndT, evOrT, evE, evEs, evL, evOr, evAnd, getV, putV, putVs, ix_t, ix_l, at0, at1, at2, at3, cmpD, eq_str, eq_int, str_beq, biD, one1, szOk, truD, e3, b1])]
    simp [exSs, exS, evT, evAndT, evOrT, evE, evEs, evL, evOr, evAnd, getV, putV, putVs, ix_t, ix_l, at0, at1, at2, at3, cmpD, eq_str, eq_int, str_beq, biD, one1, szOk, truD, e4, Ex.d, U2.s, Ty.d]
theorem expr_ok (h4 : defs 4 = some fd4) (h79 : defs 79 = some fd79) (h81 : defs 81 = some fd81) (h82 : defs 82 = some fd82) (h84 : defs 84 = some fd84) (h85 : defs 85 = some fd85) (h86 : defs 86 = some fd86) (h : defs 83 = some fd83) : ∀ d : Nat, ExprAt P defs 83 d
  | d, T, 0, S, K, g, hK, hl, hn => by omega
  | d, T, 1, S, K, g, hK, hl, hn => by omega
  | d, T, n + 2, S, K, g, hK, hl, hn => by
    have l0 := g.len
    have hp := T.h_pos
    obtain ⟨r, S1, g1, r0, r9, e0⟩ := take_ok (P := P) (n := n) h4 g (most := 11) (by decide) (by decide)
    have fin : ∀ {e : Ex} {S' : Store}, Good S' → Out e (EW d T.tw) (max T.h 3 + 4 * d + 9) (max T.h 3 + d + 1) → exSs P (callF P defs (n + 1)) (callP P defs (n + 1)).2 b83 [.val (.ref 1), .val (.lst (K.map kD)), .val T.d, .val (.int d), .un, .un, .un, .un, .un] S = some (.rt e.d S') →
        ∃ e S', Good S' ∧ Out e (EW d T.tw) (max T.h 3 + 4 * d + 9) (max T.h 3 + d + 1) ∧ callF P defs (n + 2) 83 [.ref 1, .lst (K.map kD), T.d, .int d] S = some (Ex.d e, S') := fun {e S'} g' o q => by
      refine ⟨e, S', g', o, ?_⟩
      rw [callF_on h]
      exact runD_len' rfl q (by rw [g'.len, l0])
    by_cases hb : d = 0 ∨ r = 0
    · obtain ⟨e, S2, g2, o, e1⟩ := leaf_ok (P := P) h4 h82 h81 T (n := n + 1) (K := K) g1 hK (by omega) (by omega)
      refine fin g2 (o.mono (EW_leaf _ _) (by omega) (by omega)) ?_
      generalize K.map kD = Z at e1 ⊢
      rcases hb with hb | hb
      · subst hb
        simp [exSs, exS, evT, evAndT, evOrT, evE, evEs, evL, evOr, evAnd, getV, putV, putVs, ix_t, ix_l, at0, at1, at2, at3, cmpD, eq_str, eq_int, str_beq, biD, one1, szOk, truD, b83, e0, e1]
      · subst hb
        by_cases z : (d : Int) < 1
        · simp [exSs, exS, evT, evAndT, evOrT, evE, evEs, evL, evOr, evAnd, getV, putV, putVs, ix_t, ix_l, at0, at1, at2, at3, cmpD, eq_str, eq_int, str_beq, biD, one1, szOk, truD, b83, e0, e1, z]
        · simp [exSs, exS, evT, evAndT, evOrT, evE, evEs, evL, evOr, evAnd, getV, putV, putVs, ix_t, ix_l, at0, at1, at2, at3, cmpD, eq_str, eq_int, str_beq, biD, one1, szOk, truD, b83, e0, e1, z]
    · obtain ⟨hd0, hr0⟩ := not_or.mp hb
      obtain ⟨d, rfl⟩ : ∃ k, d = k + 1 := ⟨d - 1, by omega⟩
      have ih := expr_ok h4 h79 h81 h82 h84 h85 h86 h d
      have hew : EW (d + 1) T.tw = 3 * EW d (T.tw + 64) + 3 * T.tw + 300 := rfl
      obtain ⟨Di, hDi⟩ : ∃ Di : Int, Di = ((d + 1 : Nat) : Int) := ⟨_, rfl⟩
      rw [← hDi] at fin ⊢
      have hD : Di - 1 = d := by omega
      have hlt : ¬ Di < 1 := by omega
      have b1 : binD .sub (.int Di) (.int 1) = some (.int d) := by show some (D.int (Di - 1)) = _; rw [hD]
      by_cases c3 : r < 3
      · obtain ⟨e, S2, g2, o, e1⟩ := spec_ok (P := P) h4 h79 h81 h82 h84 ih T (n := n + 1) (K := K) hD g1 hK hl (by omega)
        refine fin g2 o ?_
        generalize K.map kD = Z at e1 ⊢
        simp [exSs, exS, evT, evAndT, evOrT, evE, evEs, evL, evOr, evAnd, getV, putV, putVs, ix_t, ix_l, at0, at1, at2, at3, cmpD, eq_str, eq_int, str_beq, biD, one1, szOk, truD, b83, e0, e1, hlt, hr0, c3]
      by_cases c6 : r < 6
      · obtain ⟨e, S2, g2, o, e1⟩ := taken_ok (P := P) h4 h79 h85 ih T (n := n + 1) (K := K) hD g1 hK hl (by omega)
        refine fin g2 o ?_
        generalize K.map kD = Z at e1 ⊢
        simp [exSs, exS, evT, evAndT, evOrT, evE, evEs, evL, evOr, evAnd, getV, putV, putVs, ix_t, ix_l, at0, at1, at2, at3, cmpD, eq_str, eq_int, str_beq, biD, one1, szOk, truD, b83, e0, e1, hlt, hr0, c3, c6]
      by_cases c7 : r = 6
      · obtain ⟨e, S2, g2, o, e1⟩ := loop_ok (P := P) h4 h86 ih T (n := n + 1) (K := K) hD g1 hK hl (by omega)
        refine fin g2 o ?_
        generalize K.map kD = Z at e1 ⊢
        subst c7
        simp [exSs, exS, evT, evAndT, evOrT, evE, evEs, evL, evOr, evAnd, getV, putV, putVs, ix_t, ix_l, at0, at1, at2, at3, cmpD, eq_str, eq_int, str_beq, biD, one1, szOk, truD, b83, e0, e1, hlt]
      by_cases c8 : r = 7
      · subst c8
        obtain ⟨q, S2, g2, q0, q9, e1⟩ := take_ok (P := P) (n := n) h4 g1 (most := 3) (by decide) (by decide)
        by_cases hq : q = 0
        · subst hq
          obtain ⟨I, S3, g3, hI, e2⟩ := type79_ok (P := P) h4 h79 1 1 (n := n + 1) g2 (by decide) (by omega)
          have wI := tw_h (k := 2) hI
          obtain ⟨a, S4, g4, o1, e3⟩ := ih.sub (T := T) (T' := I) (n := n + 1) (K := K) g3 hK (by omega) (by omega) (by omega) hl (by omega)
          refine fin (e := .as (.as a .any) T) g4 ⟨o1.gk, ?_, by have := o1.ht; simp only [Ex.ht]; omega, fun t ht => ?_⟩ ?_
          · have := ew_as T (.as a .any)
            have := ew_as .any a
            rw [tw_any] at this
            have := o1.ew
            omega
          · simp [Ex.notes] at ht
            rcases ht with rfl | rfl | ht
            · omega
            · simp only [Ty.h]; omega
            · have := o1.th t ht; omega
          · generalize K.map kD = Z at e3 ⊢
            simp [exSs, exS, evT, evAndT, evOrT, evE, evEs, evL, evOr, evAnd, getV, putV, putVs, ix_t, ix_l, at0, at1, at2, at3, cmpD, eq_str, eq_int, str_beq, biD, one1, szOk, truD, b83, e0, e1, e2, e3, hlt, b1, Ex.d, Ty.d]
        · obtain ⟨a, S4, g4, o1, e3⟩ := ih.sub (T := T) (T' := T) (n := n + 1) (K := K) g2 hK (by omega) (by omega) (by omega) hl (by omega)
          refine fin (e := .as (.as a .any) T) g4 ⟨o1.gk, ?_, by have := o1.ht; simp only [Ex.ht]; omega, fun t ht => ?_⟩ ?_
          · have := ew_as T (.as a .any)
            have := ew_as .any a
            rw [tw_any] at this
            have := o1.ew
            omega
          · simp [Ex.notes] at ht
            rcases ht with rfl | rfl | ht
            · omega
            · simp only [Ty.h]; omega
            · have := o1.th t ht; omega
          · generalize K.map kD = Z at e3 ⊢
            simp [exSs, exS, evT, evAndT, evOrT, evE, evEs, evL, evOr, evAnd, getV, putV, putVs, ix_t, ix_l, at0, at1, at2, at3, cmpD, eq_str, eq_int, str_beq, biD, one1, szOk, truD, b83, e0, e1, e3, hlt, b1, hq, Ex.d, Ty.d]
      by_cases c9 : r = 8
      · subst c9
        obtain ⟨a, S2, g2, o1, e1⟩ := ih.sub (T := T) (T' := .bool) (n := n + 1) (K := K) g1 hK (by simp only [Ty.h]; omega) (by rw [tw_bool]; omega) (by omega) hl (by omega)
        obtain ⟨b, S3, g3, o2, e2⟩ := ih.sub (T := T) (T' := T) (n := n + 1) (K := K) g2 hK (by omega) (by omega) (by omega) hl (by omega)
        obtain ⟨c, S4, g4, o3, e3⟩ := ih.sub (T := T) (T' := T) (n := n + 1) (K := K) g3 hK (by omega) (by omega) (by omega) hl (by omega)
        refine fin (e := .cond a b c) g4 ⟨⟨o1.gk, o2.gk, o3.gk⟩, by have := ew_cond a b c; have := o1.ew; have := o2.ew; have := o3.ew; omega, by have := o1.ht; have := o2.ht; have := o3.ht; simp only [Ex.ht]; omega, fun t ht => ?_⟩ ?_
        · simp [Ex.notes] at ht
          rcases ht with ht | ht | ht
          · have := o1.th t ht; omega
          · have := o2.th t ht; omega
          · have := o3.th t ht; omega
        · generalize K.map kD = Z at e1 e2 e3 ⊢
          simp only [Ty.d] at e1
          simp [exSs, exS, evT, evAndT, evOrT, evE, evEs, evL, evOr, evAnd, getV, putV, putVs, ix_t, ix_l, at0, at1, at2, at3, cmpD, eq_str, eq_int, str_beq, biD, one1, szOk, truD, b83, e0, e1, e2, e3, hlt, b1, Ex.d]
      by_cases c10 : r = 9
      · subst c10
        obtain ⟨a, S2, g2, o1, e1⟩ := ih.sub (T := T) (T' := .int) (n := n + 1) (K := K) g1 hK (by simp only [Ty.h]; omega) (by rw [tw_int]; omega) (by omega) hl (by omega)
        obtain ⟨b, S3, g3, o2, e2⟩ := ih.sub (T := T) (T' := T) (n := n + 1) (K := K) g2 hK (by omega) (by omega) (by omega) hl (by omega)
        refine fin (e := .two .print a b) g3 ⟨⟨o1.gk, o2.gk⟩, by have := ew_two .print a b; have := o1.ew; have := o2.ew; omega, by have := o1.ht; have := o2.ht; simp only [Ex.ht]; omega, fun t ht => ?_⟩ ?_
        · rcases List.mem_append.mp ht with ht | ht
          · have := o1.th t ht; omega
          · have := o2.th t ht; omega
        · generalize K.map kD = Z at e1 e2 ⊢
          simp only [Ty.d] at e1
          simp [exSs, exS, evT, evAndT, evOrT, evE, evEs, evL, evOr, evAnd, getV, putV, putVs, ix_t, ix_l, at0, at1, at2, at3, cmpD, eq_str, eq_int, str_beq, biD, one1, szOk, truD, b83, e0, e1, e2, hlt, b1, Ex.d, U2.s]
      · have hk : K.length < 60 := by omega
        have okx := xN_ok (k := K.length) (by omega)
        obtain ⟨I, S2, g2, hI, e1⟩ := type79_ok (P := P) h4 h79 2 2 (n := n + 1) g1 (by decide) (by omega)
        have wI := tw_h (k := 3) hI
        obtain ⟨a, S3, g3, o1, e2⟩ := ih.sub (T := T) (T' := I) (n := n + 1) (K := K) g2 hK (by omega) (by omega) (by omega) hl (by omega)
        obtain ⟨b, S4, g4, o2, e3⟩ := ih.sub (T := T) (T' := T) (n := n + 1) (K := K) (K' := K ++ [(xN K.length, I)]) g3 (hK.snoc okx I) (by omega) (by omega) (by simp) hl (by omega)
        refine fin (e := .bin true (xN K.length) a b) g4 ⟨⟨okx, o1.gk, o2.gk⟩, by have := ew_bin true okx a b; have := o1.ew; have := o2.ew; omega, by have := o1.ht; have := o2.ht; simp only [Ex.ht]; omega, fun t ht => ?_⟩ ?_
        · rcases List.mem_append.mp ht with ht | ht
          · have := o1.th t ht; omega
          · have := o2.th t ht; omega
        · have x1 := (str_k (k := K.length) (by omega)).1
          have x2 := x_add (k := K.length) (by omega)
          have x3 := add_k (K := K) (by omega) (xN K.length) I
          have x4 : ∀ S, lenD S (.lst (K.map kD)) = some (.int K.length) := fun S => by simp [lenD]
          generalize (K ++ [(xN K.length, I)]).map kD = Z2 at x3 e3
          generalize K.map kD = Z at x3 x4 e2 ⊢
          simp [exSs, exS, evT, evAndT, evOrT, evE, evEs, evL, evOr, evAnd, getV, putV, putVs, ix_t, ix_l, at0, at1, at2, at3, cmpD, eq_str, eq_int, str_beq, biD, one1, szOk, truD, b83, e0, e1, e2, e3, hlt, hr0, c3, c6, c7, c8, c9, c10, x1, x2, x3, x4, b1, Ex.d]
end
end HN

set_option maxHeartbeats 0
/-! Less exact types and programs (plain part). -/
namespace HN
open PySem L2
/-- _law_looser -/
def b80 : Ss := (.cons (.ite (.cmp .eq (.call 4 (.cons (.var 0) (.cons (.int 4) .nil))) (.int 0)) (.cons (.ret (.tup (.cons (.str "any") .nil))) .nil) .nil) (.cons (.ite (.or (.cons (.cmp .eq (.idx (.var 1) (.int 0)) (.str "fun")) (.cons (.cmp .eq (.idx (.var 1) (.int 0)) (.str "pair")) .nil))) (.cons (.ret (.tup (.cons (.idx (.var 1) (.int 0)) (.cons (.call 80 (.cons (.var 0) (.cons (.idx (.var 1) (.int 1)) .nil))) (.cons (.call 80 (.cons (.var 0) (.cons (.idx (.var 1) (.int 2)) .nil))) .nil))))) .nil) .nil) (.cons (.ite (.cmp .eq (.idx (.var 1) (.int 0)) (.str "box")) (.cons (.ret (.tup (.cons (.str "box") (.cons (.call 80 (.cons (.var 0) (.cons (.idx (.var 1) (.int 1)) .nil))) .nil)))) .nil) .nil) (.cons (.ret (.var 1)) .nil))))
abbrev fd80 : FD := ⟨2, 2, b80⟩
/-- _law_loosened -/
def b87 : Ss := (.cons (.set 2 (.idx (.var 1) (.int 0))) (.cons (.ite (.cmp .isIn (.var 2) (.frz (.disp (.cons (.str "num") (.cons (.str "flag") (.cons (.str "unit") (.cons (.str "name") .nil))))))) (.cons (.ret (.var 1)) .nil) .nil) (.cons (.ite (.cmp .eq (.var 2) (.str "fun")) (.cons (.ret (.tup (.cons (.str "fun") (.cons (.idx (.var 1) (.int 1)) (.cons (.call 80 (.cons (.var 0) (.cons (.idx (.var 1) (.int 2)) .nil))) (.cons (.call 87 (.cons (.var 0) (.cons (.idx (.var 1) (.int 3)) .nil))) .nil)))))) .nil) .nil) (.cons (.ite (.cmp .eq (.var 2) (.str "rec")) (.cons (.set 3 (.tup (.cons (.call 80 (.cons (.var 0) (.cons (.idx (.var 1) (.int 3)) .nil))) (.cons (.call 80 (.cons (.var 0) (.cons (.idx (.var 1) (.int 4)) .nil))) .nil)))) (.cons (.ret (.bin .add (.bin .add (.slice (.var 1) .absent (.int 3)) (.var 3)) (.tup (.cons (.call 87 (.cons (.var 0) (.cons (.idx (.var 1) (.int 5)) .nil))) .nil)))) .nil)) .nil) (.cons (.ite (.cmp .eq (.var 2) (.str "as")) (.cons (.ret (.tup (.cons (.str "as") (.cons (.call 87 (.cons (.var 0) (.cons (.idx (.var 1) (.int 1)) .nil))) (.cons (.call 80 (.cons (.var 0) (.cons (.idx (.var 1) (.int 2)) .nil))) .nil))))) .nil) .nil) (.cons (.ite (.cmp .isIn (.var 2) (.frz (.disp (.cons (.str "let") (.cons (.str "op") .nil))))) (.cons (.ret (.bin .add (.slice (.var 1) .absent (.int 2)) (.tup (.cons (.call 87 (.cons (.var 0) (.cons (.idx (.var 1) (.int 2)) .nil))) (.cons (.call 87 (.cons (.var 0) (.cons (.idx (.var 1) (.int 3)) .nil))) .nil))))) .nil) .nil) (.cons (.ret (.bin .add (.tup (.cons (.var 2) .nil)) (.bi .tuple (.cons (.frz (.comp [4] true (.e (.slice (.var 1) (.int 1) .absent)) .nil (.call 87 (.cons (.var 0) (.cons (.var 4) .nil))))) .nil)))) .nil)))))))
abbrev fd87 : FD := ⟨2, 5, b87⟩
/-- _law_below -/
def b88 : Ss := (.cons (.ite (.cmp .eq (.idx (.var 0) (.int 0)) (.str "any")) (.cons (.ret (.bl true)) .nil) .nil) (.cons (.ite (.cmp .ne (.idx (.var 0) (.int 0)) (.idx (.var 1) (.int 0))) (.cons (.ret (.bl false)) .nil) .nil) (.cons (.ret (.bi .all (.cons (.frz (.comp [2] true (.range2 (.int 1) (.bi .len (.cons (.var 0) .nil))) .nil (.call 88 (.cons (.idx (.var 0) (.var 2)) (.cons (.idx (.var 1) (.var 2)) .nil))))) .nil))) .nil)))
abbrev fd88 : FD := ⟨2, 3, b88⟩
/-- is_less_exact -/
def b89 : Ss := (.cons (.ite (.cmp .ne (.call 77 (.cons (.var 0) .nil)) (.call 77 (.cons (.var 1) .nil))) (.cons (.ret (.bl false)) .nil) .nil) (.cons (.forS [2, 3] false (.zip (.call 67 (.cons (.var 0) .nil)) (.call 67 (.cons (.var 1) .nil))) (.cons (.ite (.not (.call 1 (.cons (.var 2) (.cons (.var 3) .nil)))) (.cons (.ret (.bl false)) .nil) .nil) .nil)) (.cons (.ret (.bl true)) .nil)))
abbrev fd89 : FD := ⟨2, 4, b89⟩
/-- _law_told -/
def b90 : Ss := (.cons (.set 3 (.call 89 (.cons (.var 0) (.cons (.var 1) .nil)))) (.cons (.ret (.or (.cons (.and (.cons (.cmp .is (.var 3) (.bl true)) (.cons (.var 2) .nil))) (.cons (.and (.cons (.cmp .is (.var 3) (.bl false)) (.cons (.not (.var 2)) .nil))) .nil)))) .nil))
abbrev fd90 : FD := ⟨3, 4, b90⟩
/-- _law_all_below -/
def b91 : Ss := (.cons (.setT [2, 3] (.tup (.cons (.call 67 (.cons (.var 0) .nil)) (.cons (.call 67 (.cons (.var 1) .nil)) .nil)))) (.cons (.ret (.bi .all (.cons (.frz (.comp [4] true (.range1 (.bi .len (.cons (.var 2) .nil))) .nil (.call 88 (.cons (.idx (.var 2) (.var 4)) (.cons (.idx (.var 3) (.var 4)) .nil))))) .nil))) .nil))
abbrev fd91 : FD := ⟨2, 5, b91⟩
theorem Ty.le_trans : ∀ {a b c : Ty}, a.le b = true → b.le c = true → a.le c = true
  | .any, b, c, _, _ => by simp [Ty.le]
  | .int, b, c, h1, h2 => by cases b <;> cases c <;> simp_all [Ty.le]
  | .bool, b, c, h1, h2 => by cases b <;> cases c <;> simp_all [Ty.le]
  | .unit, b, c, h1, h2 => by cases b <;> cases c <;> simp_all [Ty.le]
  | .fn a1 a2, b, c, h1, h2 => by
    cases b <;> cases c <;> simp [Ty.le] at h1 h2 ⊢
    exact ⟨Ty.le_trans h1.1 h2.1, Ty.le_trans h1.2 h2.2⟩
  | .pair a1 a2, b, c, h1, h2 => by
    cases b <;> cases c <;> simp [Ty.le] at h1 h2 ⊢
    exact ⟨Ty.le_trans h1.1 h2.1, Ty.le_trans h1.2 h2.2⟩
  | .box a1, b, c, h1, h2 => by
    cases b <;> cases c <;> simp [Ty.le] at h1 h2 ⊢
    exact Ty.le_trans h1 h2
theorem Ty.le_h : ∀ {a b : Ty}, a.le b = true → a.h ≤ b.h
  | .any, b, _ => by have := b.h_pos; simp only [Ty.h]; omega
  | .int, b, h1 => by cases b <;> simp_all [Ty.le, Ty.h]
  | .bool, b, h1 => by cases b <;> simp_all [Ty.le, Ty.h]
  | .unit, b, h1 => by cases b <;> simp_all [Ty.le, Ty.h]
  | .fn a1 a2, b, h1 => by
    cases b <;> simp [Ty.le] at h1
    have := Ty.le_h h1.1; have := Ty.le_h h1.2
    simp only [Ty.h]; omega
  | .pair a1 a2, b, h1 => by
    cases b <;> simp [Ty.le] at h1
    have := Ty.le_h h1.1; have := Ty.le_h h1.2
    simp only [Ty.h]; omega
  | .box a1, b, h1 => by
    cases b <;> simp [Ty.le] at h1
    have := Ty.le_h h1
    simp only [Ty.h]; omega
theorem Ty.le_tw : ∀ {a b : Ty}, a.le b = true → a.tw ≤ b.tw
  | .any, b, _ => by have := tw_pos b; rw [tw_any]; omega
  | .int, b, h1 => by cases b <;> simp_all [Ty.le]
  | .bool, b, h1 => by cases b <;> simp_all [Ty.le]
  | .unit, b, h1 => by cases b <;> simp_all [Ty.le]
  | .fn a1 a2, b, h1 => by
    cases b <;> simp [Ty.le] at h1
    have := Ty.le_tw h1.1; have := Ty.le_tw h1.2
    rw [tw_fn, tw_fn]; omega
  | .pair a1 a2, b, h1 => by
    cases b <;> simp [Ty.le] at h1
    have := Ty.le_tw h1.1; have := Ty.le_tw h1.2
    rw [tw_pair, tw_pair]; omega
  | .box a1, b, h1 => by
    cases b <;> simp [Ty.le] at h1
    have := Ty.le_tw h1
    rw [tw_box, tw_box]; omega
/-- one by one, as far as both go -/
def leL : List Ty → List Ty → Bool
  | a :: as, b :: bs => a.le b && leL as bs
  | _, _ => true
theorem leL_refl : ∀ l : List Ty, leL l l = true
  | [] => rfl
  | a :: l => by simp [leL, Ty.le_refl, leL_refl l]
theorem leL_trans : ∀ {a b c : List Ty}, a.length = b.length → leL a b = true → leL b c = true → leL a c = true
  | [], b, c, _, _, _ => by simp [leL]
  | x :: a, [], c, h, _, _ => by simp at h
  | x :: a, y :: b, [], _, _, _ => by simp [leL]
  | x :: a, y :: b, z :: c, h, h1, h2 => by
    simp [leL] at h1 h2 ⊢
    exact ⟨Ty.le_trans h1.1 h2.1, leL_trans (by simpa using h) h1.2 h2.2⟩
theorem leL_any : ∀ (k : Nat) (l : List Ty), leL (anyL k) l = true
  | 0, l => by simp [anyL, leL]
  | k + 1, [] => by simp [anyL, List.replicate_succ, leL]
  | k + 1, x :: l => by
    have := leL_any k l
    simp only [anyL] at this ⊢
    simp [List.replicate_succ, leL, Ty.le, this]
theorem leL_app : ∀ (xs ys ts : List Ty), leL ts (xs ++ ys) = (leL ts xs && leL (ts.drop xs.length) ys)
  | [], ys, ts => by cases ts <;> simp [leL]
  | x :: xs, ys, [] => by cases ys <;> simp [leL]
  | x :: xs, ys, t :: ts => by simp [leL, leL_app xs ys ts, Bool.and_assoc]
theorem leL_two : ∀ {a b c d : List Ty}, a.length = b.length → leL (a ++ c) (b ++ d) = (leL a b && leL c d)
  | [], [], c, d, _ => by simp [leL]
  | x :: a, [], c, d, h => by simp at h
  | [], y :: b, c, d, h => by simp at h
  | x :: a, y :: b, c, d, h => by simp [leL, leL_two (a := a) (b := b) (c := c) (d := d) (by simpa using h), Bool.and_assoc]
/-- one changed -/
theorem leL_one {l r : List Ty} {a b : Ty} : leL (l ++ a :: r) (l ++ b :: r) = a.le b := by
  rw [leL_two rfl, leL_refl]
  simp [leL, leL_refl]
theorem leL_mem : ∀ {a b : List Ty} {k : Nat}, a.length = b.length → leL a b = true → (∀ t ∈ b, t.h ≤ k) → ∀ t ∈ a, t.h ≤ k
  | [], b, k, _, _, _ => by simp
  | x :: a, [], k, h, _, _ => by simp at h
  | x :: a, y :: b, k, h, h1, h2 => fun t ht => by
    simp [leL] at h1
    rcases List.mem_cons.mp ht with rfl | ht
    · have := Ty.le_h h1.1; have := h2 y List.mem_cons_self; omega
    · exact leL_mem (by simpa using h) h1.2 (fun u hu => h2 u (List.mem_cons_of_mem _ hu)) t ht
theorem Ex.put_put : ∀ (e : Ex) (s t : List Ty), e.notes.length ≤ t.length → (e.put s).put t = e.put t
  | .num _, s, t, h => rfl
  | .flag _, s, t, h => rfl
  | .unit, s, t, h => rfl
  | .name _, s, t, h => rfl
  | .fn x T e, s, [], h => by simp [Ex.notes] at h
  | .fn x T e, s, t :: ts, h => by
    simp only [Ex.notes, List.length_cons] at h
    simp [Ex.put, Ex.put_put e _ ts (by omega)]
  | .as e T, s, [], h => by simp [Ex.notes] at h
  | .as e T, s, t :: ts, h => by
    simp only [Ex.notes, List.length_cons] at h
    simp [Ex.put, Ex.put_put e _ ts (by omega)]
  | .rc f x T U e, s, [], h => by simp [Ex.notes] at h
  | .rc f x T U e, s, [_], h => by simp [Ex.notes] at h
  | .rc f x T U e, s, t :: u :: ts, h => by
    simp only [Ex.notes, List.length_cons] at h
    simp [Ex.put, Ex.put_put e _ ts (by omega)]
  | .un k a, s, t, h => by simp only [Ex.notes] at h; simp only [Ex.put]; rw [Ex.put_put a _ t h]
  | .bin k x a b, s, t, h => by
    simp only [Ex.notes, List.length_append] at h
    simp only [Ex.put, (a.put_sz s).2.2]
    rw [Ex.put_put a _ t (by omega), Ex.put_put b _ _ (by rw [List.length_drop]; omega)]
  | .two k a b, s, t, h => by
    simp only [Ex.notes, List.length_append] at h
    simp only [Ex.put, (a.put_sz s).2.2]
    rw [Ex.put_put a _ t (by omega), Ex.put_put b _ _ (by rw [List.length_drop]; omega)]
  | .cond a b c, s, t, h => by
    simp only [Ex.notes, List.length_append] at h
    simp only [Ex.put, (a.put_sz s).2.2, (b.put_sz (s.drop a.notes.length)).2.2]
    rw [Ex.put_put a _ t (by omega), Ex.put_put b _ _ (by rw [List.length_drop]; omega), Ex.put_put c _ _ (by rw [List.length_drop]; omega)]
theorem Ex.put_app (e : Ex) (s r : List Ty) (h : s.length = e.notes.length) : e.put (s ++ r) = e.put s := by
  have e1 := e.notes_put s (by omega)
  rw [← h, List.take_length] at e1
  have e2 := (e.put s).put_notes r
  rw [e1, Ex.put_put e s (s ++ r) (by simp; omega)] at e2
  exact e2
theorem Ex.put_self (e : Ex) : e.put e.notes = e := by
  have := e.put_notes []
  rwa [List.append_nil] at this
theorem Ex.put_gk : ∀ (e : Ex) (ts : List Ty), e.gk → (e.put ts).gk
  | .num _, ts, g => g
  | .flag _, ts, g => g
  | .unit, ts, g => g
  | .name _, ts, g => g
  | .fn x T e, ts, g => ⟨g.1, Ex.put_gk e _ g.2⟩
  | .as e T, ts, g => Ex.put_gk e _ g
  | .rc f x T U e, ts, g => ⟨g.1, g.2.1, Ex.put_gk e _ g.2.2⟩
  | .un k a, ts, g => Ex.put_gk a _ g
  | .bin k x a b, ts, g => ⟨g.1, Ex.put_gk a _ g.2.1, Ex.put_gk b _ g.2.2⟩
  | .two k a b, ts, g => ⟨Ex.put_gk a _ g.1, Ex.put_gk b _ g.2⟩
  | .cond a b c, ts, g => ⟨Ex.put_gk a _ g.1, Ex.put_gk b _ g.2.1, Ex.put_gk c _ g.2.2⟩
theorem leD {T U : Ty} {ts : List Ty} (h : (ts.headD T).le U = true ∨ ts = []) (h2 : T.tw ≤ U.tw) : (ts.headD T).tw ≤ U.tw := by
  cases ts with
  | nil => exact h2
  | cons t ts =>
    rcases h with h | h
    · exact Ty.le_tw h
    · simp at h
theorem leL_hd {T : Ty} {l ts : List Ty} (h : leL ts (T :: l) = true) : (ts.headD T).tw ≤ T.tw ∧ leL ts.tail l = true := by
  cases ts with
  | nil => exact ⟨Nat.le_refl _, by simp [leL]⟩
  | cons t ts =>
    simp [leL] at h
    exact ⟨Ty.le_tw h.1, h.2⟩
theorem Ex.put_ew : ∀ (e : Ex) (ts : List Ty), leL ts e.notes = true → (e.put ts).ew ≤ e.ew
  | .num _, ts, g => Nat.le_refl _
  | .flag _, ts, g => Nat.le_refl _
  | .unit, ts, g => Nat.le_refl _
  | .name _, ts, g => Nat.le_refl _
  | .fn x T e, ts, g => by
    obtain ⟨h1, h2⟩ := leL_hd g
    have := Ex.put_ew e _ h2
    simp only [Ex.put, Ex.ew, Ty.tw, Ex.d, toPy, toPyL, PyData.weight, PyData.weightAll] at this h1 ⊢
    omega
  | .as e T, ts, g => by
    obtain ⟨h1, h2⟩ := leL_hd g
    have := Ex.put_ew e _ h2
    simp only [Ex.put, Ex.ew, Ty.tw, Ex.d, toPy, toPyL, PyData.weight, PyData.weightAll] at this h1 ⊢
    omega
  | .rc f x T U e, ts, g => by
    obtain ⟨h1, h2⟩ := leL_hd g
    obtain ⟨h3, h4⟩ := leL_hd h2
    have := Ex.put_ew e _ h4
    simp only [Ex.put, Ex.ew, Ty.tw, Ex.d, toPy, toPyL, PyData.weight, PyData.weightAll] at this h1 h3 ⊢
    omega
  | .un k a, ts, g => by
    have := Ex.put_ew a ts g
    simp only [Ex.put, Ex.ew, Ex.d, toPy, toPyL, PyData.weight, PyData.weightAll] at this ⊢
    omega
  | .bin k x a b, ts, g => by
    simp only [Ex.notes] at g
    rw [leL_app, Bool.and_eq_true] at g
    have := Ex.put_ew a ts g.1
    have := Ex.put_ew b _ g.2
    cases k <;> simp only [Ex.put, Ex.ew, Ex.d, toPy, toPyL, PyData.weight, PyData.weightAll] at * <;> omega
  | .two k a b, ts, g => by
    simp only [Ex.notes] at g
    rw [leL_app, Bool.and_eq_true] at g
    have := Ex.put_ew a ts g.1
    have := Ex.put_ew b _ g.2
    simp only [Ex.put, Ex.ew, Ex.d, toPy, toPyL, PyData.weight, PyData.weightAll] at *
    omega
  | .cond a b c, ts, g => by
    simp only [Ex.notes] at g
    rw [leL_app, Bool.and_eq_true, leL_app, Bool.and_eq_true, List.drop_drop] at g
    have := Ex.put_ew a ts g.1
    have := Ex.put_ew b _ g.2.1
    have := Ex.put_ew c _ g.2.2
    simp only [Ex.put, Ex.ew, Ex.d, toPy, toPyL, PyData.weight, PyData.weightAll] at *
    omega
theorem Ex.sz_ew : ∀ e : Ex, e.sz ≤ e.ew
  | .num _ => by simp only [Ex.sz, Ex.ew, Ex.d, toPy, toPyL, PyData.weight, PyData.weightAll]; omega
  | .flag _ => by simp only [Ex.sz, Ex.ew, Ex.d, toPy, toPyL, PyData.weight, PyData.weightAll]; omega
  | .unit => by simp only [Ex.sz, Ex.ew, Ex.d, toPy, toPyL, PyData.weight, PyData.weightAll]; omega
  | .name _ => by simp only [Ex.sz, Ex.ew, Ex.d, toPy, toPyL, PyData.weight, PyData.weightAll]; omega
  | .fn x T e => by
    have := Ex.sz_ew e
    simp only [Ex.sz, Ex.ew, Ex.d, toPy, toPyL, PyData.weight, PyData.weightAll] at *; omega
  | .as e T => by
    have := Ex.sz_ew e
    simp only [Ex.sz, Ex.ew, Ex.d, toPy, toPyL, PyData.weight, PyData.weightAll] at *; omega
  | .rc f x T U e => by
    have := Ex.sz_ew e
    simp only [Ex.sz, Ex.ew, Ex.d, toPy, toPyL, PyData.weight, PyData.weightAll] at *; omega
  | .un k a => by
    have := Ex.sz_ew a
    simp only [Ex.sz, Ex.ew, Ex.d, toPy, toPyL, PyData.weight, PyData.weightAll] at *; omega
  | .bin k x a b => by
    have := Ex.sz_ew a
    have := Ex.sz_ew b
    cases k <;> simp only [Ex.sz, Ex.ew, Ex.d, toPy, toPyL, PyData.weight, PyData.weightAll] at * <;> omega
  | .two k a b => by
    have := Ex.sz_ew a
    have := Ex.sz_ew b
    simp only [Ex.sz, Ex.ew, Ex.d, toPy, toPyL, PyData.weight, PyData.weightAll] at *; omega
  | .cond a b c => by
    have := Ex.sz_ew a
    have := Ex.sz_ew b
    have := Ex.sz_ew c
    simp only [Ex.sz, Ex.ew, Ex.d, toPy, toPyL, PyData.weight, PyData.weightAll] at *; omega
theorem Ex.dep_th : ∀ (e : Ex) {k : Nat}, (∀ t ∈ e.notes, t.h ≤ k) → D.dep e.d ≤ e.ht + k + 1
  | .num _, k, g => by simp only [Ex.d, D.dep, D.depL, Ex.ht]; omega
  | .flag _, k, g => by simp only [Ex.d, D.dep, D.depL, Ex.ht]; omega
  | .unit, k, g => by simp only [Ex.d, D.dep, D.depL, Ex.ht]; omega
  | .name _, k, g => by simp only [Ex.d, D.dep, D.depL, Ex.ht]; omega
  | .fn x T e, k, g => by
    have := Ex.dep_th e (k := k) (fun t ht => g t (List.mem_cons_of_mem _ ht)); have := g T List.mem_cons_self
    simp only [Ex.d, D.dep, D.depL, Ty.dep_h, Ex.ht]; omega
  | .rc f x T U e, k, g => by
    have := Ex.dep_th e (k := k) (fun t ht => g t (List.mem_cons_of_mem _ (List.mem_cons_of_mem _ ht))); have := g T List.mem_cons_self; have := g U (List.mem_cons_of_mem _ List.mem_cons_self)
    simp only [Ex.d, D.dep, D.depL, Ty.dep_h, Ex.ht]; omega
  | .as e T, k, g => by
    have := Ex.dep_th e (k := k) (fun t ht => g t (List.mem_cons_of_mem _ ht)); have := g T List.mem_cons_self
    simp only [Ex.d, D.dep, D.depL, Ty.dep_h, Ex.ht]; omega
  | .un u a, k, g => by have := Ex.dep_th a g; simp only [Ex.d, D.dep, D.depL, Ex.ht]; omega
  | .bin u x a b, k, g => by
    have := Ex.dep_th a (k := k) (fun t ht => g t (List.mem_append_left _ ht))
    have := Ex.dep_th b (k := k) (fun t ht => g t (List.mem_append_right _ ht))
    cases u <;> simp only [Ex.d, D.dep, D.depL, Ex.ht] <;> omega
  | .two u a b, k, g => by
    have := Ex.dep_th a (k := k) (fun t ht => g t (List.mem_append_left _ ht))
    have := Ex.dep_th b (k := k) (fun t ht => g t (List.mem_append_right _ ht))
    simp only [Ex.d, D.dep, D.depL, Ex.ht]; omega
  | .cond a b c, k, g => by
    have := Ex.dep_th a (k := k) (fun t ht => g t (List.mem_append_left _ ht))
    have := Ex.dep_th b (k := k) (fun t ht => g t (List.mem_append_right _ (List.mem_append_left _ ht)))
    have := Ex.dep_th c (k := k) (fun t ht => g t (List.mem_append_right _ (List.mem_append_right _ ht)))
    simp only [Ex.d, D.dep, D.depL, Ex.ht]; omega
theorem Ex.nice_k : ∀ (e : Ex), e.gk → D.nice e.d = true
  | .num i, g => by
    obtain ⟨g1, g2⟩ := g
    simp [Ex.d, D.nice, D.niceL, k_num.1]
    omega
  | .flag _, _ => by simp [Ex.d, D.nice, D.niceL, k_flag.1]
  | .unit, _ => by simp [Ex.d, D.nice, D.niceL, k_unit.1]
  | .name _, g => by simp [Ex.d, D.nice, D.niceL, k_name.1, g.1]
  | .fn x T e, g => by simp [Ex.d, D.nice, D.niceL, k_fun.1, g.1.1, Ty.nice, Ex.nice_k e g.2]
  | .rc f x T U e, g => by simp [Ex.d, D.nice, D.niceL, k_rec.1, g.1.1, g.2.1.1, Ty.nice, Ex.nice_k e g.2.2]
  | .as e T, g => by simp [Ex.d, D.nice, D.niceL, k_as.1, Ty.nice, Ex.nice_k e g]
  | .un u a, g => by simp [Ex.d, D.nice, D.niceL, u.ok.1, Ex.nice_k a g]
  | .bin u x a b, g => by cases u <;> simp [Ex.d, D.nice, D.niceL, k_let.1, k_op.1, g.1.1, Ex.nice_k a g.2.1, Ex.nice_k b g.2.2]
  | .two u a b, g => by simp [Ex.d, D.nice, D.niceL, u.ok.1, Ex.nice_k a g.1, Ex.nice_k b g.2]
  | .cond a b c, g => by simp [Ex.d, D.nice, D.niceL, k_if.1, Ex.nice_k a g.1, Ex.nice_k b g.2.1, Ex.nice_k c g.2.2]
mutual
theorem eqv_dep : ∀ a b : D, D.eqv a b = true → D.dep a = D.dep b
  | .tup xs, .tup ys, h => by
    simp only [D.eqv] at h
    simp only [D.dep, eqvL_dep xs ys h]
  | .lst xs, .lst ys, h => by
    simp only [D.eqv] at h
    simp only [D.dep, eqvL_dep xs ys h]
  | .non, b, h => by cases b <;> simp_all [D.eqv, D.dep]
  | .bl _, b, h => by cases b <;> simp_all [D.eqv, D.dep]
  | .int _, b, h => by cases b <;> simp_all [D.eqv, D.dep]
  | .str _, b, h => by cases b <;> simp_all [D.eqv, D.dep]
  | .tup _, .non, h => by simp [D.eqv] at h
  | .tup _, .bl _, h => by simp [D.eqv] at h
  | .tup _, .int _, h => by simp [D.eqv] at h
  | .tup _, .str _, h => by simp [D.eqv] at h
  | .tup _, .lst _, h => by simp [D.eqv] at h
  | .tup _, .scr _, h => by simp [D.eqv] at h
  | .tup _, .obj _ _, h => by simp [D.eqv] at h
  | .tup _, .ref _, h => by simp [D.eqv] at h
  | .tup _, .dic, h => by simp [D.eqv] at h
  | .lst _, .non, h => by simp [D.eqv] at h
  | .lst _, .bl _, h => by simp [D.eqv] at h
  | .lst _, .int _, h => by simp [D.eqv] at h
  | .lst _, .str _, h => by simp [D.eqv] at h
  | .lst _, .tup _, h => by simp [D.eqv] at h
  | .lst _, .scr _, h => by simp [D.eqv] at h
  | .lst _, .obj _ _, h => by simp [D.eqv] at h
  | .lst _, .ref _, h => by simp [D.eqv] at h
  | .lst _, .dic, h => by simp [D.eqv] at h
  | .scr _, b, h => by simp [D.eqv] at h
  | .obj _ _, b, h => by simp [D.eqv] at h
  | .ref _, b, h => by simp [D.eqv] at h
  | .dic, b, h => by simp [D.eqv] at h
theorem eqvL_dep : ∀ xs ys : List D, D.eqvL xs ys = true → D.depL xs = D.depL ys
  | [], [], _ => rfl
  | x :: xs, y :: ys, h => by
    simp only [D.eqvL, Bool.and_eq_true] at h
    simp only [D.depL, eqv_dep x y h.1, eqvL_dep xs ys h.2]
  | [], _ :: _, h => by simp [D.eqvL] at h
  | _ :: _, [], h => by simp [D.eqvL] at h
end
section
variable {P : Prg} {defs : Nat → Option FD}
theorem looser_ok (h4 : defs 4 = some fd4) (h : defs 80 = some fd80) : ∀ (T : Ty) {n : Nat} {S : Store}, Good S → T.h + 1 ≤ n → ∃ T' S', Good S' ∧ Ty.le T' T = true ∧ callF P defs n 80 [.ref 1, T.d] S = some (T'.d, S')
  | T, 0, S, g, hn => by omega
  | T, 1, S, g, hn => by have := T.h_pos; omega
  | T, n + 2, S, g, hn => by
    obtain ⟨r, S1, g1, r0, r9, e0⟩ := take_ok (P := P) (n := n) h4 g (most := 4) (by decide) (by decide)
    have l0 := g.len
    have l1 := g1.len
    by_cases hr : r = 0
    · subst hr
      refine ⟨.any, S1, g1, by simp [Ty.le], ?_⟩
      rw [callF_on h]
      simp [runD, exSs, exS, evE, evT, evEs, evL, evI, evIfs, evAnd, evOr, evAndT, evOrT, startD, getV, putV, getO, putVs, putT, wipeE, idxD, sliceD, isAbs, partD, biD, one1, lenD, intD, absD, tupleD, max2D, maxD, maxI, intsD, isTD, tyD, isT, binD, cmpD, isD, n_non, n_tup, n_lst, n_int, n_str, n_bl, truD, lstAt, itemsD, forD, compD, turnF, turnC, kept_none, szOk, rg_nat, rangeL, at0, at1, at2, at3, at4, at5, at6, ix0, ix1, gc_same, gc_len, eq_int, eq_str, eq_bl, str_inj, str_beq, cut1, cut2, lr0, lr1, lr2, lr3, lr4, lr5, lr6, lr7, b80, e0, l0, l1, Ty.d]
    · cases T with
      | fn a b =>
        obtain ⟨a', S2, g2, ha, e1⟩ := looser_ok h4 h a (n := n + 1) g1 (by simp only [Ty.h] at hn; omega)
        obtain ⟨b', S3, g3, hb, e2⟩ := looser_ok h4 h b (n := n + 1) g2 (by simp only [Ty.h] at hn; omega)
        have l2 := g2.len
        have l3 := g3.len
        refine ⟨.fn a' b', S3, g3, by simp [Ty.le, ha, hb], ?_⟩
        rw [callF_on h]
        simp [runD, exSs, exS, evE, evT, evEs, evL, evI, evIfs, evAnd, evOr, evAndT, evOrT, startD, getV, putV, getO, putVs, putT, wipeE, idxD, sliceD, isAbs, partD, biD, one1, lenD, intD, absD, tupleD, max2D, maxD, maxI, intsD, isTD, tyD, isT, binD, cmpD, isD, n_non, n_tup, n_lst, n_int, n_str, n_bl, truD, lstAt, itemsD, forD, compD, turnF, turnC, kept_none, szOk, rg_nat, rangeL, at0, at1, at2, at3, at4, at5, at6, ix0, ix1, gc_same, gc_len, eq_int, eq_str, eq_bl, str_inj, str_beq, cut1, cut2, lr0, lr1, lr2, lr3, lr4, lr5, lr6, lr7, b80, e0, e1, e2, l0, l1, l2, l3, hr, Ty.d]
      | pair a b =>
        obtain ⟨a', S2, g2, ha, e1⟩ := looser_ok h4 h a (n := n + 1) g1 (by simp only [Ty.h] at hn; omega)
        obtain ⟨b', S3, g3, hb, e2⟩ := looser_ok h4 h b (n := n + 1) g2 (by simp only [Ty.h] at hn; omega)
        have l2 := g2.len
        have l3 := g3.len
        refine ⟨.pair a' b', S3, g3, by simp [Ty.le, ha, hb], ?_⟩
        rw [callF_on h]
        simp [runD, exSs, exS, evE, evT, evEs, evL, evI, evIfs, evAnd, evOr, evAndT, evOrT, startD, getV, putV, getO, putVs, putT, wipeE, idxD, sliceD, isAbs, partD, biD, one1, lenD, intD, absD, tupleD, max2D, maxD, maxI, intsD, isTD, tyD, isT, binD, cmpD, isD, n_non, n_tup, n_lst, n_int, n_str, n_bl, truD, lstAt, itemsD, forD, compD, turnF, turnC, kept_none, szOk, rg_nat, rangeL, at0, at1, at2, at3, at4, at5, at6, ix0, ix1, gc_same, gc_len, eq_int, eq_str, eq_bl, str_inj, str_beq, cut1, cut2, lr0, lr1, lr2, lr3, lr4, lr5, lr6, lr7, b80, e0, e1, e2, l0, l1, l2, l3, hr, Ty.d]
      | box a =>
        obtain ⟨a', S2, g2, ha, e1⟩ := looser_ok h4 h a (n := n + 1) g1 (by simp only [Ty.h] at hn; omega)
        have l2 := g2.len
        refine ⟨.box a', S2, g2, by simp [Ty.le, ha], ?_⟩
        rw [callF_on h]
        simp [runD, exSs, exS, evE, evT, evEs, evL, evI, evIfs, evAnd, evOr, evAndT, evOrT, startD, getV, putV, getO, putVs, putT, wipeE, idxD, sliceD, isAbs, partD, biD, one1, lenD, intD, absD, tupleD, max2D, maxD, maxI, intsD, isTD, tyD, isT, binD, cmpD, isD, n_non, n_tup, n_lst, n_int, n_str, n_bl, truD, lstAt, itemsD, forD, compD, turnF, turnC, kept_none, szOk, rg_nat, rangeL, at0, at1, at2, at3, at4, at5, at6, ix0, ix1, gc_same, gc_len, eq_int, eq_str, eq_bl, str_inj, str_beq, cut1, cut2, lr0, lr1, lr2, lr3, lr4, lr5, lr6, lr7, b80, e0, e1, l0, l1, l2, hr, Ty.d]
      | any => 
        refine ⟨.any, S1, g1, by simp [Ty.le], ?_⟩
        rw [callF_on h]
        simp [runD, exSs, exS, evE, evT, evEs, evL, evI, evIfs, evAnd, evOr, evAndT, evOrT, startD, getV, putV, getO, putVs, putT, wipeE, idxD, sliceD, isAbs, partD, biD, one1, lenD, intD, absD, tupleD, max2D, maxD, maxI, intsD, isTD, tyD, isT, binD, cmpD, isD, n_non, n_tup, n_lst, n_int, n_str, n_bl, truD, lstAt, itemsD, forD, compD, turnF, turnC, kept_none, szOk, rg_nat, rangeL, at0, at1, at2, at3, at4, at5, at6, ix0, ix1, gc_same, gc_len, eq_int, eq_str, eq_bl, str_inj, str_beq, cut1, cut2, lr0, lr1, lr2, lr3, lr4, lr5, lr6, lr7, b80, e0, l0, l1, hr, Ty.d]
      | int => 
        refine ⟨.int, S1, g1, by simp [Ty.le], ?_⟩
        rw [callF_on h]
        simp [runD, exSs, exS, evE, evT, evEs, evL, evI, evIfs, evAnd, evOr, evAndT, evOrT, startD, getV, putV, getO, putVs, putT, wipeE, idxD, sliceD, isAbs, partD, biD, one1, lenD, intD, absD, tupleD, max2D, maxD, maxI, intsD, isTD, tyD, isT, binD, cmpD, isD, n_non, n_tup, n_lst, n_int, n_str, n_bl, truD, lstAt, itemsD, forD, compD, turnF, turnC, kept_none, szOk, rg_nat, rangeL, at0, at1, at2, at3, at4, at5, at6, ix0, ix1, gc_same, gc_len, eq_int, eq_str, eq_bl, str_inj, str_beq, cut1, cut2, lr0, lr1, lr2, lr3, lr4, lr5, lr6, lr7, b80, e0, l0, l1, hr, Ty.d]
      | bool => 
        refine ⟨.bool, S1, g1, by simp [Ty.le], ?_⟩
        rw [callF_on h]
        simp [runD, exSs, exS, evE, evT, evEs, evL, evI, evIfs, evAnd, evOr, evAndT, evOrT, startD, getV, putV, getO, putVs, putT, wipeE, idxD, sliceD, isAbs, partD, biD, one1, lenD, intD, absD, tupleD, max2D, maxD, maxI, intsD, isTD, tyD, isT, binD, cmpD, isD, n_non, n_tup, n_lst, n_int, n_str, n_bl, truD, lstAt, itemsD, forD, compD, turnF, turnC, kept_none, szOk, rg_nat, rangeL, at0, at1, at2, at3, at4, at5, at6, ix0, ix1, gc_same, gc_len, eq_int, eq_str, eq_bl, str_inj, str_beq, cut1, cut2, lr0, lr1, lr2, lr3, lr4, lr5, lr6, lr7, b80, e0, l0, l1, hr, Ty.d]
      | unit => 
        refine ⟨.unit, S1, g1, by simp [Ty.le], ?_⟩
        rw [callF_on h]
        simp [runD, exSs, exS, evE, evT, evEs, evL, evI, evIfs, evAnd, evOr, evAndT, evOrT, startD, getV, putV, getO, putVs, putT, wipeE, idxD, sliceD, isAbs, partD, biD, one1, lenD, intD, absD, tupleD, max2D, maxD, maxI, intsD, isTD, tyD, isT, binD, cmpD, isD, n_non, n_tup, n_lst, n_int, n_str, n_bl, truD, lstAt, itemsD, forD, compD, turnF, turnC, kept_none, szOk, rg_nat, rangeL, at0, at1, at2, at3, at4, at5, at6, ix0, ix1, gc_same, gc_len, eq_int, eq_str, eq_bl, str_inj, str_beq, cut1, cut2, lr0, lr1, lr2, lr3, lr4, lr5, lr6, lr7, b80, e0, l0, l1, hr, Ty.d]
end
end HN

set_option maxHeartbeats 0
/-! Less exact programs: what the defs compute. -/
namespace HN
open PySem L2
theorem cutp3 {α : Type} (a b c : α) (l : List α) : cutD (a :: b :: c :: l) none (some 3) = [a, b, c] := by
  unfold cutD HT.sIx
  simp
def rdL (s t : List Ty) : Bool := (List.range s.length).all fun k => (s.getD k .any).le (t.getD k .any)
theorem rdL_eq : ∀ (s t : List Ty), s.length = t.length → rdL s t = leL s t
  | [], t, h => by cases t <;> simp [rdL, leL]
  | x :: s, [], h => by simp at h
  | x :: s, y :: t, h => by
    have ih := rdL_eq s t (by simpa using h)
    simp only [rdL] at ih
    simp only [rdL, leL, List.length_cons, List.range_succ_eq_map, List.all_cons, List.all_map, ← ih]
    rfl
theorem allD_map {α : Type} (f : α → Bool) (l : List α) : allD (.lst (l.map fun t => D.bl (f t))) = some (.bl (l.all f)) := by
  have h : ∀ l : List α, boolsD (l.map fun t => D.bl (f t)) = some (l.map f) := fun l => by
    induction l with
    | nil => rfl
    | cons x l ih =>
      simp only [List.map_cons, boolsD]
      rw [ih] <;> rfl
  simp only [allD, h, Option.map_some]
  congr 2
  induction l with
  | nil => rfl
  | cons x l ih => simp_all
theorem at_ty {l : List Ty} {k : Nat} (h : k < l.length) : atI (l.map Ty.d) (k : Int) = some (l.getD k .any).d := by
  refine atI_of (j := k) ?_ rfl
  rw [List.getElem?_map, List.getElem?_eq_getElem h, List.getD_eq_getElem?_getD, List.getElem?_eq_getElem h]
  rfl
section
variable {P : Prg} {defs : Nat → Option FD}
theorem loosened_ok (h4 : defs 4 = some fd4) (h80 : defs 80 = some fd80) (h : defs 87 = some fd87) {k : Nat} : ∀ (e : Ex) {n : Nat} {S : Store}, Good S → e.ht + k + 1 ≤ n → (∀ t ∈ e.notes, t.h ≤ k) → ∃ ts S', Good S' ∧ ts.length = e.notes.length ∧ leL ts e.notes = true ∧ callF P defs n 87 [.ref 1, e.d] S = some ((e.put ts).d, S')
  | e, 0, S, g, hn, ht => by omega
  | e, n + 1, S, g, hn, ht => by
    have l0 := g.len
    have hp := e.ht_pos
    cases e with
    | num i =>
      refine ⟨[], S, g, rfl, rfl, ?_⟩
      rw [callF_on h]
      simp [runD, exSs, exS, evE, evT, evEs, evL, evI, evIfs, evAnd, evOr, evAndT, evOrT, startD, getV, putV, getO, putVs, putT, wipeE, idxD, sliceD, isAbs, partD, biD, one1, lenD, intD, absD, tupleD, max2D, maxD, maxI, intsD, isTD, tyD, isT, binD, cmpD, isD, n_non, n_tup, n_lst, n_int, n_str, n_bl, truD, lstAt, itemsD, forD, compD, turnF, turnC, kept_none, szOk, rg_nat, rangeL, at0, at1, at2, at3, at4, at5, at6, ix0, ix1, gc_same, gc_len, eq_int, eq_str, eq_bl, str_inj, str_beq, cut1, cut2, lr0, lr1, lr2, lr3, lr4, lr5, lr6, lr7, b87, Ex.d, Ex.put, in4, inLO]
    | flag b =>
      refine ⟨[], S, g, rfl, rfl, ?_⟩
      rw [callF_on h]
      simp [runD, exSs, exS, evE, evT, evEs, evL, evI, evIfs, evAnd, evOr, evAndT, evOrT, startD, getV, putV, getO, putVs, putT, wipeE, idxD, sliceD, isAbs, partD, biD, one1, lenD, intD, absD, tupleD, max2D, maxD, maxI, intsD, isTD, tyD, isT, binD, cmpD, isD, n_non, n_tup, n_lst, n_int, n_str, n_bl, truD, lstAt, itemsD, forD, compD, turnF, turnC, kept_none, szOk, rg_nat, rangeL, at0, at1, at2, at3, at4, at5, at6, ix0, ix1, gc_same, gc_len, eq_int, eq_str, eq_bl, str_inj, str_beq, cut1, cut2, lr0, lr1, lr2, lr3, lr4, lr5, lr6, lr7, b87, Ex.d, Ex.put, in4, inLO]
    | unit =>
      refine ⟨[], S, g, rfl, rfl, ?_⟩
      rw [callF_on h]
      simp [runD, exSs, exS, evE, evT, evEs, evL, evI, evIfs, evAnd, evOr, evAndT, evOrT, startD, getV, putV, getO, putVs, putT, wipeE, idxD, sliceD, isAbs, partD, biD, one1, lenD, intD, absD, tupleD, max2D, maxD, maxI, intsD, isTD, tyD, isT, binD, cmpD, isD, n_non, n_tup, n_lst, n_int, n_str, n_bl, truD, lstAt, itemsD, forD, compD, turnF, turnC, kept_none, szOk, rg_nat, rangeL, at0, at1, at2, at3, at4, at5, at6, ix0, ix1, gc_same, gc_len, eq_int, eq_str, eq_bl, str_inj, str_beq, cut1, cut2, lr0, lr1, lr2, lr3, lr4, lr5, lr6, lr7, b87, Ex.d, Ex.put, in4, inLO]
    | name s =>
      refine ⟨[], S, g, rfl, rfl, ?_⟩
      rw [callF_on h]
      simp [runD, exSs, exS, evE, evT, evEs, evL, evI, evIfs, evAnd, evOr, evAndT, evOrT, startD, getV, putV, getO, putVs, putT, wipeE, idxD, sliceD, isAbs, partD, biD, one1, lenD, intD, absD, tupleD, max2D, maxD, maxI, intsD, isTD, tyD, isT, binD, cmpD, isD, n_non, n_tup, n_lst, n_int, n_str, n_bl, truD, lstAt, itemsD, forD, compD, turnF, turnC, kept_none, szOk, rg_nat, rangeL, at0, at1, at2, at3, at4, at5, at6, ix0, ix1, gc_same, gc_len, eq_int, eq_str, eq_bl, str_inj, str_beq, cut1, cut2, lr0, lr1, lr2, lr3, lr4, lr5, lr6, lr7, b87, Ex.d, Ex.put, in4, inLO]
    | fn x T e =>
      simp only [Ex.ht] at hn
      obtain ⟨T', S1, g1, q1, e1⟩ := looser_ok (P := P) h4 h80 T (n := n) g (by have := ht T List.mem_cons_self; omega)
      obtain ⟨ts, S2, g2, ln, q2, e2⟩ := loosened_ok h4 h80 h e (n := n) g1 (by omega) (fun t hh => ht t (List.mem_cons_of_mem _ hh))
      have l1 := g1.len
      have l2 := g2.len
      refine ⟨T' :: ts, S2, g2, by simp [Ex.notes, ln], by simp [Ex.notes, leL, q1, q2], ?_⟩
      rw [callF_on h]
      simp [runD, exSs, exS, evE, evT, evEs, evL, evI, evIfs, evAnd, evOr, evAndT, evOrT, startD, getV, putV, getO, putVs, putT, wipeE, idxD, sliceD, isAbs, partD, biD, one1, lenD, intD, absD, tupleD, max2D, maxD, maxI, intsD, isTD, tyD, isT, binD, cmpD, isD, n_non, n_tup, n_lst, n_int, n_str, n_bl, truD, lstAt, itemsD, forD, compD, turnF, turnC, kept_none, szOk, rg_nat, rangeL, at0, at1, at2, at3, at4, at5, at6, ix0, ix1, gc_same, gc_len, eq_int, eq_str, eq_bl, str_inj, str_beq, cut1, cut2, lr0, lr1, lr2, lr3, lr4, lr5, lr6, lr7, b87, Ex.d, Ex.put, in4, inLO, e1, e2, l0, l1, l2]
    | rc f x T U e =>
      simp only [Ex.ht] at hn
      obtain ⟨T', S1, g1, q1, e1⟩ := looser_ok (P := P) h4 h80 T (n := n) g (by have := ht T List.mem_cons_self; omega)
      obtain ⟨U', S2, g2, q2, e2⟩ := looser_ok (P := P) h4 h80 U (n := n) g1 (by have := ht U (List.mem_cons_of_mem _ List.mem_cons_self); omega)
      obtain ⟨ts, S3, g3, ln, q3, e3⟩ := loosened_ok h4 h80 h e (n := n) g2 (by omega) (fun t hh => ht t (List.mem_cons_of_mem _ (List.mem_cons_of_mem _ hh)))
      have l1 := g1.len
      have l2 := g2.len
      have l3 := g3.len
      refine ⟨T' :: U' :: ts, S3, g3, by simp [Ex.notes, ln], by simp [Ex.notes, leL, q1, q2, q3], ?_⟩
      rw [callF_on h]
      simp [runD, exSs, exS, evE, evT, evEs, evL, evI, evIfs, evAnd, evOr, evAndT, evOrT, startD, getV, putV, getO, putVs, putT, wipeE, idxD, sliceD, isAbs, partD, biD, one1, lenD, intD, absD, tupleD, max2D, maxD, maxI, intsD, isTD, tyD, isT, binD, cmpD, isD, n_non, n_tup, n_lst, n_int, n_str, n_bl, truD, lstAt, itemsD, forD, compD, turnF, turnC, kept_none, szOk, rg_nat, rangeL, at0, at1, at2, at3, at4, at5, at6, ix0, ix1, gc_same, gc_len, eq_int, eq_str, eq_bl, str_inj, str_beq, cut1, cut2, lr0, lr1, lr2, lr3, lr4, lr5, lr6, lr7, b87, Ex.d, Ex.put, in4, inLO, cutp3, e1, e2, e3, l0, l1, l2, l3]
    | as e T =>
      simp only [Ex.ht] at hn
      obtain ⟨ts, S1, g1, ln, q1, e1⟩ := loosened_ok h4 h80 h e (n := n) g (by omega) (fun t hh => ht t (List.mem_cons_of_mem _ hh))
      obtain ⟨T', S2, g2, q2, e2⟩ := looser_ok (P := P) h4 h80 T (n := n) g1 (by have := ht T List.mem_cons_self; omega)
      have l1 := g1.len
      have l2 := g2.len
      refine ⟨T' :: ts, S2, g2, by simp [Ex.notes, ln], by simp [Ex.notes, leL, q1, q2], ?_⟩
      rw [callF_on h]
      simp [runD, exSs, exS, evE, evT, evEs, evL, evI, evIfs, evAnd, evOr, evAndT, evOrT, startD, getV, putV, getO, putVs, putT, wipeE, idxD, sliceD, isAbs, partD, biD, one1, lenD, intD, absD, tupleD, max2D, maxD, maxI, intsD, isTD, tyD, isT, binD, cmpD, isD, n_non, n_tup, n_lst, n_int, n_str, n_bl, truD, lstAt, itemsD, forD, compD, turnF, turnC, kept_none, szOk, rg_nat, rangeL, at0, at1, at2, at3, at4, at5, at6, ix0, ix1, gc_same, gc_len, eq_int, eq_str, eq_bl, str_inj, str_beq, cut1, cut2, lr0, lr1, lr2, lr3, lr4, lr5, lr6, lr7, b87, Ex.d, Ex.put, in4, inLO, e1, e2, l0, l1, l2]
    | un u a =>
      simp only [Ex.ht] at hn
      obtain ⟨ts, S1, g1, ln, q1, e1⟩ := loosened_ok h4 h80 h a (n := n) g (by omega) ht
      have l1 := g1.len
      refine ⟨ts, S1, g1, ln, q1, ?_⟩
      rw [callF_on h]
      cases u <;> simp [runD, exSs, exS, evE, evT, evEs, evL, evI, evIfs, evAnd, evOr, evAndT, evOrT, startD, getV, putV, getO, putVs, putT, wipeE, idxD, sliceD, isAbs, partD, biD, one1, lenD, intD, absD, tupleD, max2D, maxD, maxI, intsD, isTD, tyD, isT, binD, cmpD, isD, n_non, n_tup, n_lst, n_int, n_str, n_bl, truD, lstAt, itemsD, forD, compD, turnF, turnC, kept_none, szOk, rg_nat, rangeL, at0, at1, at2, at3, at4, at5, at6, ix0, ix1, gc_same, gc_len, eq_int, eq_str, eq_bl, str_inj, str_beq, cut1, cut2, lr0, lr1, lr2, lr3, lr4, lr5, lr6, lr7, b87, Ex.d, Ex.put, U1.s, in4, inLO, e1, l0, l1]
    | bin u s a b =>
      simp only [Ex.ht] at hn
      obtain ⟨ta, S1, g1, ln1, q1, e1⟩ := loosened_ok h4 h80 h a (n := n) g (by omega) (fun t hh => ht t (List.mem_append_left _ hh))
      obtain ⟨tb, S2, g2, ln2, q2, e2⟩ := loosened_ok h4 h80 h b (n := n) g1 (by omega) (fun t hh => ht t (List.mem_append_right _ hh))
      have l1 := g1.len
      have l2 := g2.len
      refine ⟨ta ++ tb, S2, g2, by simp [Ex.notes, ln1, ln2], by rw [Ex.notes, leL_two ln1, q1, q2] <;> rfl, ?_⟩
      rw [callF_on h]
      have pa := a.put_app ta tb ln1
      have pb : (ta ++ tb).drop a.notes.length = tb := by rw [← ln1, List.drop_left]
      cases u <;> simp only [Ex.put, Ex.d, pa, pb] <;> simp [runD, exSs, exS, evE, evT, evEs, evL, evI, evIfs, evAnd, evOr, evAndT, evOrT, startD, getV, putV, getO, putVs, putT, wipeE, idxD, sliceD, isAbs, partD, biD, one1, lenD, intD, absD, tupleD, max2D, maxD, maxI, intsD, isTD, tyD, isT, binD, cmpD, isD, n_non, n_tup, n_lst, n_int, n_str, n_bl, truD, lstAt, itemsD, forD, compD, turnF, turnC, kept_none, szOk, rg_nat, rangeL, at0, at1, at2, at3, at4, at5, at6, ix0, ix1, gc_same, gc_len, eq_int, eq_str, eq_bl, str_inj, str_beq, cut1, cut2, lr0, lr1, lr2, lr3, lr4, lr5, lr6, lr7, b87, in4, inLO, cutp2, e1, e2, l0, l1, l2]
    | two u a b =>
      simp only [Ex.ht] at hn
      obtain ⟨ta, S1, g1, ln1, q1, e1⟩ := loosened_ok h4 h80 h a (n := n) g (by omega) (fun t hh => ht t (List.mem_append_left _ hh))
      obtain ⟨tb, S2, g2, ln2, q2, e2⟩ := loosened_ok h4 h80 h b (n := n) g1 (by omega) (fun t hh => ht t (List.mem_append_right _ hh))
      have l1 := g1.len
      have l2 := g2.len
      refine ⟨ta ++ tb, S2, g2, by simp [Ex.notes, ln1, ln2], by rw [Ex.notes, leL_two ln1, q1, q2] <;> rfl, ?_⟩
      rw [callF_on h]
      have pa := a.put_app ta tb ln1
      have pb : (ta ++ tb).drop a.notes.length = tb := by rw [← ln1, List.drop_left]
      simp only [Ex.put, Ex.d, pa, pb]
      cases u <;> simp [runD, exSs, exS, evE, evT, evEs, evL, evI, evIfs, evAnd, evOr, evAndT, evOrT, startD, getV, putV, getO, putVs, putT, wipeE, idxD, sliceD, isAbs, partD, biD, one1, lenD, intD, absD, tupleD, max2D, maxD, maxI, intsD, isTD, tyD, isT, binD, cmpD, isD, n_non, n_tup, n_lst, n_int, n_str, n_bl, truD, lstAt, itemsD, forD, compD, turnF, turnC, kept_none, szOk, rg_nat, rangeL, at0, at1, at2, at3, at4, at5, at6, ix0, ix1, gc_same, gc_len, eq_int, eq_str, eq_bl, str_inj, str_beq, cut1, cut2, lr0, lr1, lr2, lr3, lr4, lr5, lr6, lr7, b87, U2.s, in4, inLO, e1, e2, l0, l1, l2]
    | cond a b c =>
      simp only [Ex.ht] at hn
      obtain ⟨ta, S1, g1, ln1, q1, e1⟩ := loosened_ok h4 h80 h a (n := n) g (by omega) (fun t hh => ht t (List.mem_append_left _ hh))
      obtain ⟨tb, S2, g2, ln2, q2, e2⟩ := loosened_ok h4 h80 h b (n := n) g1 (by omega) (fun t hh => ht t (List.mem_append_right _ (List.mem_append_left _ hh)))
      obtain ⟨tc, S3, g3, ln3, q3, e3⟩ := loosened_ok h4 h80 h c (n := n) g2 (by omega) (fun t hh => ht t (List.mem_append_right _ (List.mem_append_right _ hh)))
      have l1 := g1.len
      have l2 := g2.len
      have l3 := g3.len
      refine ⟨ta ++ (tb ++ tc), S3, g3, by simp [Ex.notes, ln1, ln2, ln3], by rw [Ex.notes, leL_two ln1, leL_two ln2, q1, q2, q3] <;> rfl, ?_⟩
      rw [callF_on h]
      have pa := a.put_app ta (tb ++ tc) ln1
      have pb : (ta ++ (tb ++ tc)).drop a.notes.length = tb ++ tc := by rw [← ln1, List.drop_left]
      have pb' := b.put_app tb tc ln2
      have pc : (ta ++ (tb ++ tc)).drop (a.notes.length + b.notes.length) = tc := by rw [← List.drop_drop, pb, ← ln2, List.drop_left]
      simp only [Ex.put, Ex.d, pa, pb, pb', pc]
      simp [runD, exSs, exS, evE, evT, evEs, evL, evI, evIfs, evAnd, evOr, evAndT, evOrT, startD, getV, putV, getO, putVs, putT, wipeE, idxD, sliceD, isAbs, partD, biD, one1, lenD, intD, absD, tupleD, max2D, maxD, maxI, intsD, isTD, tyD, isT, binD, cmpD, isD, n_non, n_tup, n_lst, n_int, n_str, n_bl, truD, lstAt, itemsD, forD, compD, turnF, turnC, kept_none, szOk, rg_nat, rangeL, at0, at1, at2, at3, at4, at5, at6, ix0, ix1, gc_same, gc_len, eq_int, eq_str, eq_bl, str_inj, str_beq, cut1, cut2, lr0, lr1, lr2, lr3, lr4, lr5, lr6, lr7, b87, in4, inLO, e1, e2, e3, l0, l1, l2, l3]
theorem below_run (h : defs 88 = some fd88) : ∀ (a b : Ty) {n : Nat} (S : Store), a.h ≤ n → callF P defs n 88 [a.d, b.d] S = some (.bl (a.le b), S)
  | t, b, 0, S, hn => by have := t.h_pos; omega
  | .any, b, n + 1, S, hn => by rw [callF_on h]; cases b <;> simp [runD, exSs, exS, evE, evT, evEs, evL, evI, evIfs, evAnd, evOr, evAndT, evOrT, startD, getV, putV, getO, putVs, putT, wipeE, idxD, sliceD, isAbs, partD, biD, one1, lenD, intD, absD, tupleD, max2D, maxD, maxI, intsD, isTD, tyD, isT, binD, cmpD, isD, n_non, n_tup, n_lst, n_int, n_str, n_bl, truD, lstAt, itemsD, forD, compD, turnF, turnC, kept_none, szOk, rg_nat, rangeL, at0, at1, at2, at3, at4, at5, at6, ix0, ix1, gc_same, gc_len, eq_int, eq_str, eq_bl, str_inj, str_beq, cut1, cut2, lr0, lr1, lr2, lr3, lr4, lr5, lr6, lr7, b88, Ty.d, Ty.le]
  | .int, b, n + 1, S, hn => by rw [callF_on h]; cases b <;> simp [runD, exSs, exS, evE, evT, evEs, evL, evI, evIfs, evAnd, evOr, evAndT, evOrT, startD, getV, putV, getO, putVs, putT, wipeE, idxD, sliceD, isAbs, partD, biD, one1, lenD, intD, absD, tupleD, max2D, maxD, maxI, intsD, isTD, tyD, isT, binD, cmpD, isD, n_non, n_tup, n_lst, n_int, n_str, n_bl, truD, lstAt, itemsD, forD, compD, turnF, turnC, kept_none, szOk, rg_nat, rangeL, at0, at1, at2, at3, at4, at5, at6, ix0, ix1, gc_same, gc_len, eq_int, eq_str, eq_bl, str_inj, str_beq, cut1, cut2, lr0, lr1, lr2, lr3, lr4, lr5, lr6, lr7, b88, Ty.d, Ty.le, allD, boolsD]
  | .bool, b, n + 1, S, hn => by rw [callF_on h]; cases b <;> simp [runD, exSs, exS, evE, evT, evEs, evL, evI, evIfs, evAnd, evOr, evAndT, evOrT, startD, getV, putV, getO, putVs, putT, wipeE, idxD, sliceD, isAbs, partD, biD, one1, lenD, intD, absD, tupleD, max2D, maxD, maxI, intsD, isTD, tyD, isT, binD, cmpD, isD, n_non, n_tup, n_lst, n_int, n_str, n_bl, truD, lstAt, itemsD, forD, compD, turnF, turnC, kept_none, szOk, rg_nat, rangeL, at0, at1, at2, at3, at4, at5, at6, ix0, ix1, gc_same, gc_len, eq_int, eq_str, eq_bl, str_inj, str_beq, cut1, cut2, lr0, lr1, lr2, lr3, lr4, lr5, lr6, lr7, b88, Ty.d, Ty.le, allD, boolsD]
  | .unit, b, n + 1, S, hn => by rw [callF_on h]; cases b <;> simp [runD, exSs, exS, evE, evT, evEs, evL, evI, evIfs, evAnd, evOr, evAndT, evOrT, startD, getV, putV, getO, putVs, putT, wipeE, idxD, sliceD, isAbs, partD, biD, one1, lenD, intD, absD, tupleD, max2D, maxD, maxI, intsD, isTD, tyD, isT, binD, cmpD, isD, n_non, n_tup, n_lst, n_int, n_str, n_bl, truD, lstAt, itemsD, forD, compD, turnF, turnC, kept_none, szOk, rg_nat, rangeL, at0, at1, at2, at3, at4, at5, at6, ix0, ix1, gc_same, gc_len, eq_int, eq_str, eq_bl, str_inj, str_beq, cut1, cut2, lr0, lr1, lr2, lr3, lr4, lr5, lr6, lr7, b88, Ty.d, Ty.le, allD, boolsD]
  | .fn a1 a2, b, n + 1, S, hn => by
    have e1 := fun b S => below_run h a1 b (n := n) S (by simp [Ty.h] at hn; omega)
    have e2 := fun b S => below_run h a2 b (n := n) S (by simp [Ty.h] at hn; omega)
    rw [callF_on h]; cases b <;> simp [runD, exSs, exS, evE, evT, evEs, evL, evI, evIfs, evAnd, evOr, evAndT, evOrT, startD, getV, putV, getO, putVs, putT, wipeE, idxD, sliceD, isAbs, partD, biD, one1, lenD, intD, absD, tupleD, max2D, maxD, maxI, intsD, isTD, tyD, isT, binD, cmpD, isD, n_non, n_tup, n_lst, n_int, n_str, n_bl, truD, lstAt, itemsD, forD, compD, turnF, turnC, kept_none, szOk, rg_nat, rangeL, at0, at1, at2, at3, at4, at5, at6, ix0, ix1, gc_same, gc_len, eq_int, eq_str, eq_bl, str_inj, str_beq, cut1, cut2, lr0, lr1, lr2, lr3, lr4, lr5, lr6, lr7, b88, Ty.d, Ty.le, allD, boolsD, e1, e2]
  | .pair a1 a2, b, n + 1, S, hn => by
    have e1 := fun b S => below_run h a1 b (n := n) S (by simp [Ty.h] at hn; omega)
    have e2 := fun b S => below_run h a2 b (n := n) S (by simp [Ty.h] at hn; omega)
    rw [callF_on h]; cases b <;> simp [runD, exSs, exS, evE, evT, evEs, evL, evI, evIfs, evAnd, evOr, evAndT, evOrT, startD, getV, putV, getO, putVs, putT, wipeE, idxD, sliceD, isAbs, partD, biD, one1, lenD, intD, absD, tupleD, max2D, maxD, maxI, intsD, isTD, tyD, isT, binD, cmpD, isD, n_non, n_tup, n_lst, n_int, n_str, n_bl, truD, lstAt, itemsD, forD, compD, turnF, turnC, kept_none, szOk, rg_nat, rangeL, at0, at1, at2, at3, at4, at5, at6, ix0, ix1, gc_same, gc_len, eq_int, eq_str, eq_bl, str_inj, str_beq, cut1, cut2, lr0, lr1, lr2, lr3, lr4, lr5, lr6, lr7, b88, Ty.d, Ty.le, allD, boolsD, e1, e2]
  | .box a1, b, n + 1, S, hn => by
    have e1 := fun b S => below_run h a1 b (n := n) S (by simp [Ty.h] at hn; omega)
    rw [callF_on h]; cases b <;> simp [runD, exSs, exS, evE, evT, evEs, evL, evI, evIfs, evAnd, evOr, evAndT, evOrT, startD, getV, putV, getO, putVs, putT, wipeE, idxD, sliceD, isAbs, partD, biD, one1, lenD, intD, absD, tupleD, max2D, maxD, maxI, intsD, isTD, tyD, isT, binD, cmpD, isD, n_non, n_tup, n_lst, n_int, n_str, n_bl, truD, lstAt, itemsD, forD, compD, turnF, turnC, kept_none, szOk, rg_nat, rangeL, at0, at1, at2, at3, at4, at5, at6, ix0, ix1, gc_same, gc_len, eq_int, eq_str, eq_bl, str_inj, str_beq, cut1, cut2, lr0, lr1, lr2, lr3, lr4, lr5, lr6, lr7, b88, Ty.d, Ty.le, allD, boolsD, e1]
end
end HN

set_option maxHeartbeats 0
/-! is_less_exact, and what the law says of it. -/
namespace HN
open PySem L2
def ileb : Ss := (.cons (.ite (.not (.call 1 (.cons (.var 2) (.cons (.var 3) .nil)))) (.cons (.ret (.bl false)) .nil) .nil) .nil)
theorem evI_r1q {P : Prg} {c m : CallF} {a : E} {ρ : HN.Env} {S S1 : Store} {n : Int} (h : evE P c m a ρ S = some (.int n, S1)) (hr : rgOk 0 n = true) : evI P c m (.range1 a) ρ S = some ((rangeL 0 n, none), S1) := by
  have e : evI P c m (.range1 a) ρ S = (evE P c m a ρ S).bind fun x => match x with
    | (.int n, S1) => if rgOk 0 n then some ((rangeL 0 n, none), S1) else none
    | _ => none := by simp only [evI] <;> rfl
  rw [e, h]
  simp only [Option.bind_some]
  rw [if_pos hr]
theorem compD_mq {α : Type} {T : D → Store → Option (Option D × Store)} {S : Store} {f g : α → D} : ∀ {l : List α}, (∀ x ∈ l, T (f x) S = some (some (g x), S)) → compD T (l.map f) S = some (l.map g, S)
  | [], _ => rfl
  | x :: l, h => by
    have ih := compD_mq (T := T) (S := S) (f := f) (g := g) (l := l) fun y hy => h y (List.mem_cons_of_mem _ hy)
    show (T (f x) S).bind _ = _
    rw [h x List.mem_cons_self]
    simp [ih]
theorem eq_selfE {d : D} (h : D.data d = true) (hd : D.dep d ≤ 64) : eqD d d = some true := by
  unfold eqD
  rw [eqv_self d h, h, if_pos (by simp [hd])]
theorem eq_depE {a b : D} (ha : D.data a = true) (hb : D.data b = true) (hd : D.dep a ≤ 64) (hn : D.dep a ≠ D.dep b) : eqD a b = some false := by
  unfold eqD
  have e : D.eqv a b = false := by
    cases q : D.eqv a b with
    | false => rfl
    | true => exact absurd (eqv_dep a b q) hn
  rw [ha, hb, e, if_pos (by simp; omega)]
theorem any_h {k : Nat} : ∀ t ∈ anyL k, t.h ≤ 1 := fun t ht => by
  have : t = .any := by simp [anyL] at ht; exact ht.2
  subst this
  decide
section
variable {P : Prg} {defs : Nat → Option FD}
theorem ile_loop (hg : P.glob 0 = some (.tup [.str "any"])) (h1 : defs 1 = some fd1) {mk : CallF} {n : Nat} {x0 x1 : Slot} {S : Store} : ∀ (s t : List Ty) {s2 s3 : Slot}, s.length = t.length → (∀ u ∈ s, u.h ≤ n) →
    (leL s t = false → forD (turnF false [2, 3] none (exSs P (callF P defs n) mk ileb)) (zipL (s.map Ty.d) (t.map Ty.d)) [x0, x1, s2, s3] S = some (.rt (.bl false) S)) ∧ (leL s t = true → ∃ s2' s3', forD (turnF false [2, 3] none (exSs P (callF P defs n) mk ileb)) (zipL (s.map Ty.d) (t.map Ty.d)) [x0, x1, s2, s3] S = some (.nx [x0, x1, s2', s3'] S))
  | [], [], s2, s3, hl, hh => ⟨fun q => by simp [leL] at q, fun _ => ⟨s2, s3, rfl⟩⟩
  | [], y :: t, s2, s3, hl, hh => by simp at hl
  | x :: s, [], s2, s3, hl, hh => by simp at hl
  | x :: s, y :: t, s2, s3, hl, hh => by
    have p := less_exact_ok (P := P) h1 hg x y S (hh x List.mem_cons_self)
    obtain ⟨q1, q2⟩ := ile_loop hg h1 (mk := mk) (n := n) (x0 := x0) (x1 := x1) (S := S) s t (s2 := .val x.d) (s3 := .val y.d) (by simpa using hl) fun u hu => hh u (List.mem_cons_of_mem _ hu)
    cases ha : x.le y with
    | false =>
      rw [ha] at p
      refine ⟨fun _ => ?_, fun q => by simp [leL, ha] at q⟩
      show (turnF false [2, 3] none (exSs P (callF P defs n) mk ileb) (.tup [x.d, y.d]) _ S).bind _ = _
      simp [turnF, putT, putVs, putV, partD, exSs, exS, ileb, evT, evE, evEs, getV, p, truD]
    | true =>
      rw [ha] at p
      have et : turnF false [2, 3] none (exSs P (callF P defs n) mk ileb) (.tup [x.d, y.d]) [x0, x1, s2, s3] S = some (.nx [x0, x1, .val x.d, .val y.d] S) := by
        simp [turnF, putT, putVs, putV, partD, exSs, exS, ileb, evT, evE, evEs, getV, p, truD, kept_none]
      refine ⟨fun q => ?_, fun q => ?_⟩
      · show (turnF false [2, 3] none (exSs P (callF P defs n) mk ileb) (.tup [x.d, y.d]) _ S).bind _ = _
        rw [et]
        exact q1 (by simpa [leL, ha] using q)
      · obtain ⟨s2', s3', e⟩ := q2 (by simpa [leL, ha] using q)
        refine ⟨s2', s3', ?_⟩
        show (turnF false [2, 3] none (exSs P (callF P defs n) mk ileb) (.tup [x.d, y.d]) _ S).bind _ = _
        rw [et]
        exact e
section
variable (hg : P.glob 0 = some (.tup [.str "any"])) (h1 : defs 1 = some fd1) (h60 : defs 60 = some fd60) (h61 : defs 61 = some fd61) (h62 : defs 62 = some fd62) (h63 : defs 63 = some fd63) (h64 : defs 64 = some fd64) (h65 : defs 65 = some fd65) (h66 : defs 66 = some fd66) (h67 : defs 67 = some fd67) (h77 : defs 77 = some fd77) (h : defs 89 = some fd89)
include hg h1 h60 h61 h62 h63 h64 h65 h66 h67 h77 h
theorem ile_no (a b : Ex) {n : Nat} (S : Store) (ha : a.ht + 5 ≤ n) (hb : b.ht + 5 ≤ n) (za : a.sz ≤ 400000) (zb : b.sz ≤ 400000) (hq : eqD (a.put (anyL a.notes.length)).d (b.put (anyL b.notes.length)).d = some false) : callF P defs (n + 1) 89 [a.d, b.d] S = some (.bl false, S) := by
  obtain ⟨n, rfl⟩ : ∃ k, n = k + 1 := ⟨n - 1, by omega⟩
  have r1 := erased_run (P := P) hg h60 h61 h62 h63 h64 h65 h66 h67 h77 a (n := n) S (by omega) za
  have r2 := erased_run (P := P) hg h60 h61 h62 h63 h64 h65 h66 h67 h77 b (n := n) S (by omega) zb
  rw [callF_on h]
  refine runD_end rfl ?_
  show exSs P _ _ b89 [.val a.d, .val b.d, .un, .un] S = _
  generalize (a.put (anyL a.notes.length)).d = A at r1 hq
  generalize (b.put (anyL b.notes.length)).d = B at r2 hq
  simp [exSs, exS, b89, evT, evE, evEs, getV, r1, r2, cmpD, hq]
theorem ile_run (e : Ex) (s t : List Ty) (hs : s.length = e.notes.length) (ht : t.length = e.notes.length) {n : Nat} (S : Store) (hn : e.ht + 5 ≤ n) (hz : e.sz ≤ 400000) (hh : ∀ u ∈ s, u.h ≤ n) (hd : e.ht ≤ 60) : callF P defs (n + 1) 89 [(e.put s).d, (e.put t).d] S = some (.bl (leL s t), S) := by
  obtain ⟨n, rfl⟩ : ∃ k, n = k + 3 := ⟨n - 3, by omega⟩
  obtain ⟨zs, ks, ls⟩ := e.put_sz s
  obtain ⟨zt, kt, lt⟩ := e.put_sz t
  have r1 := erased_run (P := P) hg h60 h61 h62 h63 h64 h65 h66 h67 h77 (e.put s) (n := n + 2) S (by omega) (by omega)
  have r2 := erased_run (P := P) hg h60 h61 h62 h63 h64 h65 h66 h67 h77 (e.put t) (n := n + 2) S (by omega) (by omega)
  have al : (anyL e.notes.length).length = e.notes.length := by simp [anyL]
  rw [ls, e.put_put s _ (by omega)] at r1
  rw [lt, e.put_put t _ (by omega)] at r2
  have hq : eqD (e.put (anyL e.notes.length)).d (e.put (anyL e.notes.length)).d = some true := eq_selfE (Ex.data _) (by
    have k := (e.put_sz (anyL e.notes.length)).2.1
    have := Ex.dep_th (e.put (anyL e.notes.length)) (k := 1) (by
      rw [e.notes_put _ (by omega)]
      exact fun t ht => any_h t (List.mem_of_mem_take ht))
    omega)
  have a1 := annot_run (P := P) h60 h61 h62 h67 (e.put s) (n := n) S (by omega)
  have a2 := annot_run (P := P) h60 h61 h62 h67 (e.put t) (n := n) S (by omega)
  rw [e.notes_put s (by omega), ← hs, List.take_length] at a1
  rw [e.notes_put t (by omega), ← ht, List.take_length] at a2
  generalize (e.put (anyL e.notes.length)).d = A at r1 r2 hq
  generalize (e.put s).d = X at *
  generalize (e.put t).d = Y at *
  obtain ⟨q1, q2⟩ := ile_loop (P := P) hg h1 (mk := (callP P defs (n + 3)).2) (n := n + 3) (x0 := .val X) (x1 := .val Y) (S := S) s t (s2 := .un) (s3 := .un) (by omega) hh
  have ev : evI P (callF P defs (n + 3)) (callP P defs (n + 3)).2 (.zip (.call 67 (.cons (.var 0) .nil)) (.call 67 (.cons (.var 1) .nil))) [.val X, .val Y, .un, .un] S = some ((zipL (s.map Ty.d) (t.map Ty.d), none), S) := by
    have hl : (s.map Ty.d).length = (t.map Ty.d).length := by simp; omega
    generalize s.map Ty.d = U at *
    generalize t.map Ty.d = W at *
    simp [evI, evE, evEs, getV, a1, a2, hl]
  rw [callF_on h]
  refine runD_end rfl ?_
  show exSs P _ _ (.cons (.ite (.cmp .ne (.call 77 (.cons (.var 0) .nil)) (.call 77 (.cons (.var 1) .nil))) (.cons (.ret (.bl false)) .nil) .nil) (.cons (.forS [2, 3] false (.zip (.call 67 (.cons (.var 0) .nil)) (.call 67 (.cons (.var 1) .nil))) ileb) (.cons (.ret (.bl true)) .nil))) [.val X, .val Y, .un, .un] S = _
  rw [exS_nx (ρ1 := [.val X, .val Y, .un, .un]) (S1 := S) (by simp [exSs, exS, evT, evE, evEs, getV, r1, r2, cmpD, hq])]
  cases ha : leL s t with
  | false =>
    have e1 := q1 ha
    show (exS P _ _ (.forS [2, 3] false (.zip (.call 67 (.cons (.var 0) .nil)) (.call 67 (.cons (.var 1) .nil))) ileb) _ S).bind _ = _
    simp only [exS, ev, Option.bind_some, e1] <;> rfl
  | true =>
    obtain ⟨s2', s3', e1⟩ := q2 ha
    rw [exS_nx (ρ1 := [.val X, .val Y, s2', s3']) (S1 := S) (by simp only [exS, ev, Option.bind_some, e1])]
    simp [exSs, exS, evE]
end
theorem told_run (h : defs 90 = some fd90) {a b : D} {r : Bool} {n : Nat} {S : Store} (e : callF P defs n 89 [a, b] S = some (.bl r, S)) : callF P defs (n + 1) 90 [a, b, .bl r] S = some (.bl true, S) := by
  rw [callF_on h]
  refine runD_end rfl ?_
  show exSs P _ _ b90 [.val a, .val b, .val (.bl r), .un] S = _
  cases r <;> simp [exSs, exS, b90, evT, evOr, evAnd, evE, evEs, getV, putV, e, cmpD, isD, truD]
theorem all_run (h60 : defs 60 = some fd60) (h61 : defs 61 = some fd61) (h62 : defs 62 = some fd62) (h67 : defs 67 = some fd67) (h88 : defs 88 = some fd88) (h : defs 91 = some fd91) (e : Ex) (s t : List Ty) (hs : s.length = e.notes.length) (ht : t.length = e.notes.length) {n : Nat} (S : Store) (hn : 3 ≤ n) (hz : e.sz ≤ 400000) (hh : ∀ u ∈ s, u.h ≤ n) : callF P defs (n + 1) 91 [(e.put s).d, (e.put t).d] S = some (.bl (leL s t), S) := by
  obtain ⟨n, rfl⟩ : ∃ k, n = k + 3 := ⟨n - 3, by omega⟩
  obtain ⟨zs, ks, ls⟩ := e.put_sz s
  obtain ⟨zt, kt, lt⟩ := e.put_sz t
  have hl := e.notes_len
  have a1 := annot_run (P := P) h60 h61 h62 h67 (e.put s) (n := n) S (by omega)
  have a2 := annot_run (P := P) h60 h61 h62 h67 (e.put t) (n := n) S (by omega)
  rw [e.notes_put s (by omega), ← hs, List.take_length] at a1
  rw [e.notes_put t (by omega), ← ht, List.take_length] at a2
  generalize (e.put s).d = X at *
  generalize (e.put t).d = Y at *
  let ρ : HN.Env := [.val X, .val Y, .val (.lst (s.map Ty.d)), .val (.lst (t.map Ty.d)), .un]
  have ev : evI P (callF P defs (n + 3)) (callP P defs (n + 3)).2 (.range1 (.bi .len (.cons (.var 2) .nil))) ρ S = some ((rangeL 0 (s.length : Int), none), S) := by
    refine evI_r1q ?_ (rg_nat (by decide) (by decide) (by omega) (by omega))
    simp [evE, evEs, getV, ρ, biD, one1, lenD]
  have hr : rangeL 0 (s.length : Int) = (List.range s.length).map fun i => D.int (0 + (i : Nat)) := by
    simp [rangeL]
  have hc : compD (turnC true [4] none (evIfs P (callF P defs (n + 3)) (callP P defs (n + 3)).2 .nil) (evE P (callF P defs (n + 3)) (callP P defs (n + 3)).2 (.call 88 (.cons (.idx (.var 2) (.var 4)) (.cons (.idx (.var 3) (.var 4)) .nil)))) ρ) (rangeL 0 (s.length : Int)) S = some ((List.range s.length).map fun k => D.bl ((s.getD k .any).le (t.getD k .any)), S) := by
    rw [hr]
    refine compD_mq fun k hk => ?_
    have hk := List.mem_range.mp hk
    have x1 : atI (s.map Ty.d) (0 + (k : Int)) = some (s.getD k .any).d := by rw [Int.zero_add]; exact at_ty hk
    have x2 : atI (t.map Ty.d) (0 + (k : Int)) = some (t.getD k .any).d := by rw [Int.zero_add]; exact at_ty (by omega)
    have x3 := below_run (P := P) h88 (s.getD k .any) (t.getD k .any) (n := n + 3) S (by
      refine hh _ ?_
      rw [List.getD_eq_getElem?_getD, List.getElem?_eq_getElem hk]
      exact List.getElem_mem hk)
    simp only [ρ, turnC, putT, putV, wipeE, evIfs, evE, evEs, getV, List.foldl, List.set, List.getElem?_cons_succ, List.getElem?_cons_zero, Option.map_some, Option.bind_some, ix_l, x1, x2, x3, kept_none, if_true] <;> rfl
  have hz2 : decide ((rangeL 0 (s.length : Int)).length ≤ 16777216) = true := by
    rw [hr, List.length_map, List.length_range]
    exact decide_eq_true (by omega)
  have el : evL P (callF P defs (n + 3)) (callP P defs (n + 3)).2 (.comp [4] true (.range1 (.bi .len (.cons (.var 2) .nil))) .nil (.call 88 (.cons (.idx (.var 2) (.var 4)) (.cons (.idx (.var 3) (.var 4)) .nil)))) ρ S = some ((List.range s.length).map fun k => D.bl ((s.getD k .any).le (t.getD k .any)), S) := by
    simp only [evL, ev, Option.bind_some, hz2, if_true, hc]
  have ha : allD (.lst ((List.range s.length).map fun k => D.bl ((s.getD k .any).le (t.getD k .any)))) = some (.bl (leL s t)) := by
    rw [allD_map, ← rdL_eq s t (by omega)]
    rfl
  rw [callF_on h]
  refine runD_end rfl ?_
  show exSs P _ _ (.cons (.setT [2, 3] (.tup (.cons (.call 67 (.cons (.var 0) .nil)) (.cons (.call 67 (.cons (.var 1) .nil)) .nil)))) (.cons (.ret (.bi .all (.cons (.frz (.comp [4] true (.range1 (.bi .len (.cons (.var 2) .nil))) .nil (.call 88 (.cons (.idx (.var 2) (.var 4)) (.cons (.idx (.var 3) (.var 4)) .nil))))) .nil))) .nil)) [.val X, .val Y, .un, .un, .un] S = _
  rw [exS_nx (ρ1 := ρ) (S1 := S) (by
    show _ = some (Fl.nx [.val X, .val Y, .val (.lst (s.map Ty.d)), .val (.lst (t.map Ty.d)), .un] S)
    generalize s.map Ty.d = U at a1
    generalize t.map Ty.d = W at a2
    simp [exS, evE, evEs, getV, putVs, putV, szOk, a1, a2])]
  simp only [exSs, exS, evE, evEs, el, Option.map_some, Option.bind_some, biD, one1, ha] <;> rfl
end
end HN

namespace K21
open PySem L2 HN

def top (i : Nat) : Stmt := PySem.Challenge.pw_halfnoted_k21_less_exact_programs.main.body.getD i (.Pass ⟨0, 0, 0, 0⟩)
abbrev n1 : List Str := ["one", "other", "index"]
abbrev n60 : List Str := ["expression", "head"]
abbrev n61 : List Str := ["expression", "result", "waiting", "current"]
abbrev n62 : List Str := ["expression"]
abbrev n67 : List Str := ["expression", "result", "current"]
abbrev n63 : List Str := ["expression", "types"]
abbrev n65 : List Str := ["expression", "inner", "head"]
abbrev n64 : List Str := ["expression", "types", "start", "own", "result", "inner", "part", "part_built"]
abbrev n66 : List Str := ["expression", "types"]
abbrev n77 : List Str := ["expression", "annotation"]
abbrev n89 : List Str := ["one", "other", "first", "second"]
abbrev n14 : List Str := ["_law_script", "_law_cells", "_law_cell"]
abbrev n4 : List Str := ["_law_state_here", "_law_most", "_law_cells", "_law_at", "_law_cell", "_law_mixed"]
abbrev n79 : List Str := ["_law_state_here", "_law_depth", "_law_kind"]
abbrev n80 : List Str := ["_law_state_here", "_law_one"]
abbrev n82 : List Str := ["_law_state_here", "_law_wanted"]
abbrev n81 : List Str := ["_law_state_here", "_law_known", "_law_wanted", "_law_names", "_law_name", "_law_pair"]
abbrev n86 : List Str := ["_law_state_here", "_law_known", "_law_wanted", "_law_depth", "_law_inner", "_law_again", "_law_last", "_law_body", "_law_name", "_law_step"]
abbrev n84 : List Str := ["_law_state_here", "_law_known", "_law_wanted", "_law_depth", "_law_sign", "_law_one", "_law_name", "_law_inner"]
abbrev n85 : List Str := ["_law_state_here", "_law_known", "_law_wanted", "_law_depth", "_law_kind", "_law_other", "_law_one"]
abbrev n83 : List Str := ["_law_state_here", "_law_known", "_law_wanted", "_law_depth", "_law_kind", "_law_one", "_law_other", "_law_test", "_law_name"]
abbrev n87 : List Str := ["_law_state_here", "_law_tree", "_law_head", "_law_types", "_law_part"]
abbrev n88 : List Str := ["_law_one", "_law_other", "_law_k"]
abbrev n91 : List Str := ["_law_one", "_law_other", "_law_first", "_law_second", "_law_k"]
abbrev n90 : List Str := ["_law_one", "_law_other", "_law_due", "_law_told_here"]
/-- law -/
def b92 : Ss := (.cons (.set 1 (.call 14 (.cons (.var 0) .nil))) (.cons (.set 2 (.call 83 (.cons (.var 1) (.cons (.frz (.disp .nil)) (.cons (.call 79 (.cons (.var 1) (.cons (.int 2) .nil))) (.cons (.bin .add (.int 1) (.call 4 (.cons (.var 1) (.cons (.int 4) .nil)))) .nil)))))) (.cons (.set 3 (.call 87 (.cons (.var 1) (.cons (.var 2) .nil)))) (.cons (.set 4 (.call 87 (.cons (.var 1) (.cons (.var 3) .nil)))) (.cons (.set 5 (.bi .repr (.cons (.tup (.cons (.var 2) (.cons (.var 3) (.cons (.var 4) .nil)))) .nil))) (.cons (.set 6 (.call 67 (.cons (.var 2) .nil))) (.cons (.forS [7] true (.e (.frz (.disp (.cons (.tup (.cons (.var 2) (.cons (.var 2) .nil))) (.cons (.tup (.cons (.var 3) (.cons (.var 2) .nil))) (.cons (.tup (.cons (.var 4) (.cons (.var 3) .nil))) (.cons (.tup (.cons (.var 4) (.cons (.var 2) .nil))) (.cons (.tup (.cons (.call 77 (.cons (.var 2) .nil)) (.cons (.var 4) .nil))) .nil)))))))) (.cons (.ite (.cmp .isNot (.call 89 (.cons (.idx (.var 7) (.int 0)) (.cons (.idx (.var 7) (.int 1)) .nil))) (.bl true)) (.cons (.ret (.bl false)) .nil) .nil) (.cons (.ite (.not (.call 90 (.cons (.idx (.var 7) (.int 1)) (.cons (.idx (.var 7) (.int 0)) (.cons (.call 91 (.cons (.idx (.var 7) (.int 1)) (.cons (.idx (.var 7) (.int 0)) .nil))) .nil))))) (.cons (.ret (.bl false)) .nil) .nil) .nil))) (.cons (.ite (.cmp .gt (.bi .len (.cons (.var 6) .nil)) (.int 0)) (.cons (.set 9 (.call 4 (.cons (.var 1) (.cons (.bi .len (.cons (.var 6) .nil)) .nil)))) (.cons (.set 10 (.bin .add (.bin .add (.slice (.var 6) .absent (.var 9)) (.frz (.disp (.cons (.call 79 (.cons (.var 1) (.cons (.int 3) .nil))) .nil)))) (.slice (.var 6) (.bin .add (.var 9) (.int 1)) .absent))) (.cons (.set 11 (.call 66 (.cons (.var 2) (.cons (.var 10) .nil)))) (.cons (.ite (.not (.call 90 (.cons (.var 11) (.cons (.var 2) (.cons (.call 88 (.cons (.idx (.var 10) (.var 9)) (.cons (.idx (.var 6) (.var 9)) .nil))) .nil))))) (.cons (.ret (.bl false)) .nil) .nil) (.cons (.ite (.not (.call 90 (.cons (.var 2) (.cons (.var 11) (.cons (.call 88 (.cons (.idx (.var 6) (.var 9)) (.cons (.idx (.var 10) (.var 9)) .nil))) .nil))))) (.cons (.ret (.bl false)) .nil) .nil) .nil))))) .nil) (.cons (.set 8 (.tup (.cons (.str "pair") (.cons (.var 2) (.cons (.tup (.cons (.str "unit") .nil)) .nil))))) (.cons (.ite (.or (.cons (.cmp .isNot (.call 89 (.cons (.var 8) (.cons (.var 2) .nil))) (.bl false)) (.cons (.cmp .isNot (.call 89 (.cons (.tup (.cons (.str "pair") (.cons (.var 3) (.cons (.tup (.cons (.str "num") (.cons (.int 1) .nil))) .nil)))) (.cons (.var 8) .nil))) (.bl false)) .nil))) (.cons (.ret (.bl false)) .nil) .nil) (.cons (.ret (.and (.cons (.cmp .is (.call 89 (.cons (.tup (.cons (.str "pair") (.cons (.var 3) (.cons (.tup (.cons (.str "unit") .nil)) .nil)))) (.cons (.var 8) .nil))) (.bl true)) (.cons (.cmp .eq (.bi .repr (.cons (.tup (.cons (.var 2) (.cons (.var 3) (.cons (.var 4) .nil)))) .nil)) (.var 5)) .nil)))) .nil)))))))))))
abbrev fd92 : FD := ⟨1, 12, b92⟩
abbrev n92 : List Str := ["_law_script", "_law_state_here", "_law_tree", "_law_looser_here", "_law_loosest", "_law_kept", "_law_notes", "_law_pair", "_law_strange", "_law_at", "_law_changed", "_law_other"]
def fds : List (Nat × FD) := [(1, fd1), (60, fd60), (61, fd61), (62, fd62), (67, fd67), (63, fd63), (65, fd65), (64, fd64), (66, fd66), (77, fd77), (89, fd89), (14, fd14), (4, fd4), (79, fd79), (80, fd80), (82, fd82), (81, fd81), (86, fd86), (84, fd84), (85, fd85), (83, fd83), (87, fd87), (88, fd88), (91, fd91), (90, fd90), (92, fd92)]
def defs (f : Nat) : Option FD := fds.lookup f
def gls : List (Nat × D) := [(0, (.tup [(.str "any")]))]
def dts : List (Nat × List (Str × D)) := []
def prg : Prg where
  glob := fun g => gls.lookup g
  gdict := fun g => (dts.lookup g).getD []
  init := fun _ => none
  size := fun _ => 0
def rows : List (Nat × Str × List Str × Nat) := [(1, "less_exact", ["one", "other"], 0), (60, "parts", ["expression"], 0), (61, "numbered", ["expression"], 0), (62, "own_annotations", ["expression"], 0), (67, "annotations", ["expression"], 0), (63, "with_types", ["expression", "types"], 0), (65, "with_parts", ["expression", "inner"], 0), (64, "rebuilt", ["expression", "types", "start"], 0), (66, "with_annotations", ["expression", "types"], 0), (77, "erased", ["expression"], 0), (89, "is_less_exact", ["one", "other"], 0), (14, "_law_state", ["_law_script"], 0), (4, "_law_take", ["_law_state_here", "_law_most"], 0), (79, "_law_type", ["_law_state_here", "_law_depth"], 0), (80, "_law_looser", ["_law_state_here", "_law_one"], 0), (82, "_law_constant", ["_law_state_here", "_law_wanted"], 0), (81, "_law_leaf", ["_law_state_here", "_law_known", "_law_wanted"], 0), (86, "_law_loop", ["_law_state_here", "_law_known", "_law_wanted", "_law_depth"], 0), (84, "_law_special", ["_law_state_here", "_law_known", "_law_wanted", "_law_depth"], 0), (85, "_law_taken", ["_law_state_here", "_law_known", "_law_wanted", "_law_depth"], 0), (83, "_law_expression", ["_law_state_here", "_law_known", "_law_wanted", "_law_depth"], 0), (87, "_law_loosened", ["_law_state_here", "_law_tree"], 0), (88, "_law_below", ["_law_one", "_law_other"], 0), (91, "_law_all_below", ["_law_one", "_law_other"], 0), (90, "_law_told", ["_law_one", "_law_other", "_law_due"], 0), (92, "law", ["_law_script"], 0)]
def gns : List (Nat × Str) := [(0, "ANY_types"), (0, "ANY_programs")]
def dns : List (Nat × Str) := []
def tb : Tb := tbOf prg rows gns dns
theorem s1 : C8.scC n1 (tb.params 1) (defScope (top 2)) = true := by decide +kernel
theorem m1 : mSs tb n1 (defScope (top 2)) b1 (defBody (top 2)) = true := by decide +kernel
theorem s60 : C8.scC n60 (tb.params 60) (defScope (top 5)) = true := by decide +kernel
theorem m60 : mSs tb n60 (defScope (top 5)) b60 (defBody (top 5)) = true := by decide +kernel
theorem s61 : C8.scC n61 (tb.params 61) (defScope (top 6)) = true := by decide +kernel
theorem m61 : mSs tb n61 (defScope (top 6)) b61 (defBody (top 6)) = true := by decide +kernel
theorem s62 : C8.scC n62 (tb.params 62) (defScope (top 7)) = true := by decide +kernel
theorem m62 : mSs tb n62 (defScope (top 7)) b62 (defBody (top 7)) = true := by decide +kernel
theorem s67 : C8.scC n67 (tb.params 67) (defScope (top 8)) = true := by decide +kernel
theorem m67 : mSs tb n67 (defScope (top 8)) b67 (defBody (top 8)) = true := by decide +kernel
theorem s63 : C8.scC n63 (tb.params 63) (defScope (top 9)) = true := by decide +kernel
theorem m63 : mSs tb n63 (defScope (top 9)) b63 (defBody (top 9)) = true := by decide +kernel
theorem s65 : C8.scC n65 (tb.params 65) (defScope (top 10)) = true := by decide +kernel
theorem m65 : mSs tb n65 (defScope (top 10)) b65 (defBody (top 10)) = true := by decide +kernel
theorem s64 : C8.scC n64 (tb.params 64) (defScope (top 11)) = true := by decide +kernel
theorem m64 : mSs tb n64 (defScope (top 11)) b64 (defBody (top 11)) = true := by decide +kernel
theorem s66 : C8.scC n66 (tb.params 66) (defScope (top 12)) = true := by decide +kernel
theorem m66 : mSs tb n66 (defScope (top 12)) b66 (defBody (top 12)) = true := by decide +kernel
theorem s77 : C8.scC n77 (tb.params 77) (defScope (top 13)) = true := by decide +kernel
theorem m77 : mSs tb n77 (defScope (top 13)) b77 (defBody (top 13)) = true := by decide +kernel
theorem s89 : C8.scC n89 (tb.params 89) (defScope (top 14)) = true := by decide +kernel
theorem m89 : mSs tb n89 (defScope (top 14)) b89 (defBody (top 14)) = true := by decide +kernel
theorem s14 : C8.scC n14 (tb.params 14) (defScope (top 16)) = true := by decide +kernel
theorem m14 : mSs tb n14 (defScope (top 16)) b14 (defBody (top 16)) = true := by decide +kernel
theorem s4 : C8.scC n4 (tb.params 4) (defScope (top 17)) = true := by decide +kernel
theorem m4 : mSs tb n4 (defScope (top 17)) b4 (defBody (top 17)) = true := by decide +kernel
theorem s79 : C8.scC n79 (tb.params 79) (defScope (top 18)) = true := by decide +kernel
theorem m79 : mSs tb n79 (defScope (top 18)) b79 (defBody (top 18)) = true := by decide +kernel
theorem s80 : C8.scC n80 (tb.params 80) (defScope (top 19)) = true := by decide +kernel
theorem m80 : mSs tb n80 (defScope (top 19)) b80 (defBody (top 19)) = true := by decide +kernel
theorem s82 : C8.scC n82 (tb.params 82) (defScope (top 20)) = true := by decide +kernel
theorem m82 : mSs tb n82 (defScope (top 20)) b82 (defBody (top 20)) = true := by decide +kernel
theorem s81 : C8.scC n81 (tb.params 81) (defScope (top 21)) = true := by decide +kernel
theorem m81 : mSs tb n81 (defScope (top 21)) b81 (defBody (top 21)) = true := by decide +kernel
theorem s86 : C8.scC n86 (tb.params 86) (defScope (top 22)) = true := by decide +kernel
theorem m86 : mSs tb n86 (defScope (top 22)) b86 (defBody (top 22)) = true := by decide +kernel
theorem s84 : C8.scC n84 (tb.params 84) (defScope (top 23)) = true := by decide +kernel
theorem m84 : mSs tb n84 (defScope (top 23)) b84 (defBody (top 23)) = true := by decide +kernel
theorem s85 : C8.scC n85 (tb.params 85) (defScope (top 24)) = true := by decide +kernel
theorem m85 : mSs tb n85 (defScope (top 24)) b85 (defBody (top 24)) = true := by decide +kernel
theorem s83 : C8.scC n83 (tb.params 83) (defScope (top 25)) = true := by decide +kernel
theorem m83 : mSs tb n83 (defScope (top 25)) b83 (defBody (top 25)) = true := by decide +kernel
theorem s87 : C8.scC n87 (tb.params 87) (defScope (top 26)) = true := by decide +kernel
theorem m87 : mSs tb n87 (defScope (top 26)) b87 (defBody (top 26)) = true := by decide +kernel
theorem s88 : C8.scC n88 (tb.params 88) (defScope (top 28)) = true := by decide +kernel
theorem m88 : mSs tb n88 (defScope (top 28)) b88 (defBody (top 28)) = true := by decide +kernel
theorem s91 : C8.scC n91 (tb.params 91) (defScope (top 29)) = true := by decide +kernel
theorem m91 : mSs tb n91 (defScope (top 29)) b91 (defBody (top 29)) = true := by decide +kernel
theorem s90 : C8.scC n90 (tb.params 90) (defScope (top 30)) = true := by decide +kernel
theorem m90 : mSs tb n90 (defScope (top 30)) b90 (defBody (top 30)) = true := by decide +kernel
theorem s92 : C8.scC n92 (tb.params 92) (defScope (top 31)) = true := by decide +kernel
theorem m92 : mSs tb n92 (defScope (top 31)) b92 (defBody (top 31)) = true := by decide +kernel
def dd1 : He.DefD := ⟨("less_exact", none), "less_exact", "less_exact", defArgs (top 2), defBody (top 2), defScope (top 2), [], []⟩
def dd60 : He.DefD := ⟨("parts", none), "parts", "parts", defArgs (top 5), defBody (top 5), defScope (top 5), [], []⟩
def dd61 : He.DefD := ⟨("numbered", none), "numbered", "numbered", defArgs (top 6), defBody (top 6), defScope (top 6), [], []⟩
def dd62 : He.DefD := ⟨("own_annotations", none), "own_annotations", "own_annotations", defArgs (top 7), defBody (top 7), defScope (top 7), [], []⟩
def dd67 : He.DefD := ⟨("annotations", none), "annotations", "annotations", defArgs (top 8), defBody (top 8), defScope (top 8), [], []⟩
def dd63 : He.DefD := ⟨("with_types", none), "with_types", "with_types", defArgs (top 9), defBody (top 9), defScope (top 9), [], []⟩
def dd65 : He.DefD := ⟨("with_parts", none), "with_parts", "with_parts", defArgs (top 10), defBody (top 10), defScope (top 10), [], []⟩
def dd64 : He.DefD := ⟨("rebuilt", none), "rebuilt", "rebuilt", defArgs (top 11), defBody (top 11), defScope (top 11), [], []⟩
def dd66 : He.DefD := ⟨("with_annotations", none), "with_annotations", "with_annotations", defArgs (top 12), defBody (top 12), defScope (top 12), [], []⟩
def dd77 : He.DefD := ⟨("erased", none), "erased", "erased", defArgs (top 13), defBody (top 13), defScope (top 13), [], []⟩
def dd89 : He.DefD := ⟨("is_less_exact", none), "is_less_exact", "is_less_exact", defArgs (top 14), defBody (top 14), defScope (top 14), [], []⟩
def dd14 : He.DefD := ⟨("_law_state", none), "_law_state", "_law_state", defArgs (top 16), defBody (top 16), defScope (top 16), [], []⟩
def dd4 : He.DefD := ⟨("_law_take", none), "_law_take", "_law_take", defArgs (top 17), defBody (top 17), defScope (top 17), [], []⟩
def dd79 : He.DefD := ⟨("_law_type", none), "_law_type", "_law_type", defArgs (top 18), defBody (top 18), defScope (top 18), [], []⟩
def dd80 : He.DefD := ⟨("_law_looser", none), "_law_looser", "_law_looser", defArgs (top 19), defBody (top 19), defScope (top 19), [], []⟩
def dd82 : He.DefD := ⟨("_law_constant", none), "_law_constant", "_law_constant", defArgs (top 20), defBody (top 20), defScope (top 20), [], []⟩
def dd81 : He.DefD := ⟨("_law_leaf", none), "_law_leaf", "_law_leaf", defArgs (top 21), defBody (top 21), defScope (top 21), [], []⟩
def dd86 : He.DefD := ⟨("_law_loop", none), "_law_loop", "_law_loop", defArgs (top 22), defBody (top 22), defScope (top 22), [], []⟩
def dd84 : He.DefD := ⟨("_law_special", none), "_law_special", "_law_special", defArgs (top 23), defBody (top 23), defScope (top 23), [], []⟩
def dd85 : He.DefD := ⟨("_law_taken", none), "_law_taken", "_law_taken", defArgs (top 24), defBody (top 24), defScope (top 24), [], []⟩
def dd83 : He.DefD := ⟨("_law_expression", none), "_law_expression", "_law_expression", defArgs (top 25), defBody (top 25), defScope (top 25), [], []⟩
def dd87 : He.DefD := ⟨("_law_loosened", none), "_law_loosened", "_law_loosened", defArgs (top 26), defBody (top 26), defScope (top 26), [], []⟩
def dd88 : He.DefD := ⟨("_law_below", none), "_law_below", "_law_below", defArgs (top 28), defBody (top 28), defScope (top 28), [], []⟩
def dd91 : He.DefD := ⟨("_law_all_below", none), "_law_all_below", "_law_all_below", defArgs (top 29), defBody (top 29), defScope (top 29), [], []⟩
def dd90 : He.DefD := ⟨("_law_told", none), "_law_told", "_law_told", defArgs (top 30), defBody (top 30), defScope (top 30), [], []⟩
def dd92 : He.DefD := ⟨("law", none), "law", "law", defArgs (top 31), defBody (top 31), defScope (top 31), [], []⟩
def look : Look where
  fn := [dd1, dd60, dd61, dd62, dd67, dd63, dd65, dd64, dd66, dd77, dd89, dd14, dd4, dd79, dd80, dd82, dd81, dd86, dd84, dd85, dd83, dd87, dd88, dd91, dd90, dd92]
  ts := []
  glob := [("ANY_types", (.tup [(.str "any")])), ("ANY_programs", (.tup [(.str "any")]))]
  dict := []
section
variable {K : PySem.W.Frag} {f : Addr} {fd : FuncData}
theorem bd1 (F : FunD K "less_exact" "less_exact" (defArgs (top 2)) (defBody (top 2)) (defScope (top 2)) [] [] f fd) : Binds K fd (tb.params 1) [] :=
  F.bindsN fun _ _ _ _ _ _ us hl => match us, hl with | [_, _], _ => rfl
theorem bd60 (F : FunD K "parts" "parts" (defArgs (top 5)) (defBody (top 5)) (defScope (top 5)) [] [] f fd) : Binds K fd (tb.params 60) [] :=
  F.bindsN fun _ _ _ _ _ _ us hl => match us, hl with | [_], _ => rfl
theorem bd61 (F : FunD K "numbered" "numbered" (defArgs (top 6)) (defBody (top 6)) (defScope (top 6)) [] [] f fd) : Binds K fd (tb.params 61) [] :=
  F.bindsN fun _ _ _ _ _ _ us hl => match us, hl with | [_], _ => rfl
theorem bd62 (F : FunD K "own_annotations" "own_annotations" (defArgs (top 7)) (defBody (top 7)) (defScope (top 7)) [] [] f fd) : Binds K fd (tb.params 62) [] :=
  F.bindsN fun _ _ _ _ _ _ us hl => match us, hl with | [_], _ => rfl
theorem bd67 (F : FunD K "annotations" "annotations" (defArgs (top 8)) (defBody (top 8)) (defScope (top 8)) [] [] f fd) : Binds K fd (tb.params 67) [] :=
  F.bindsN fun _ _ _ _ _ _ us hl => match us, hl with | [_], _ => rfl
theorem bd63 (F : FunD K "with_types" "with_types" (defArgs (top 9)) (defBody (top 9)) (defScope (top 9)) [] [] f fd) : Binds K fd (tb.params 63) [] :=
  F.bindsN fun _ _ _ _ _ _ us hl => match us, hl with | [_, _], _ => rfl
theorem bd65 (F : FunD K "with_parts" "with_parts" (defArgs (top 10)) (defBody (top 10)) (defScope (top 10)) [] [] f fd) : Binds K fd (tb.params 65) [] :=
  F.bindsN fun _ _ _ _ _ _ us hl => match us, hl with | [_, _], _ => rfl
theorem bd64 (F : FunD K "rebuilt" "rebuilt" (defArgs (top 11)) (defBody (top 11)) (defScope (top 11)) [] [] f fd) : Binds K fd (tb.params 64) [] :=
  F.bindsN fun _ _ _ _ _ _ us hl => match us, hl with | [_, _, _], _ => rfl
theorem bd66 (F : FunD K "with_annotations" "with_annotations" (defArgs (top 12)) (defBody (top 12)) (defScope (top 12)) [] [] f fd) : Binds K fd (tb.params 66) [] :=
  F.bindsN fun _ _ _ _ _ _ us hl => match us, hl with | [_, _], _ => rfl
theorem bd77 (F : FunD K "erased" "erased" (defArgs (top 13)) (defBody (top 13)) (defScope (top 13)) [] [] f fd) : Binds K fd (tb.params 77) [] :=
  F.bindsN fun _ _ _ _ _ _ us hl => match us, hl with | [_], _ => rfl
theorem bd89 (F : FunD K "is_less_exact" "is_less_exact" (defArgs (top 14)) (defBody (top 14)) (defScope (top 14)) [] [] f fd) : Binds K fd (tb.params 89) [] :=
  F.bindsN fun _ _ _ _ _ _ us hl => match us, hl with | [_, _], _ => rfl
theorem bd14 (F : FunD K "_law_state" "_law_state" (defArgs (top 16)) (defBody (top 16)) (defScope (top 16)) [] [] f fd) : Binds K fd (tb.params 14) [] :=
  F.bindsN fun _ _ _ _ _ _ us hl => match us, hl with | [_], _ => rfl
theorem bd4 (F : FunD K "_law_take" "_law_take" (defArgs (top 17)) (defBody (top 17)) (defScope (top 17)) [] [] f fd) : Binds K fd (tb.params 4) [] :=
  F.bindsN fun _ _ _ _ _ _ us hl => match us, hl with | [_, _], _ => rfl
theorem bd79 (F : FunD K "_law_type" "_law_type" (defArgs (top 18)) (defBody (top 18)) (defScope (top 18)) [] [] f fd) : Binds K fd (tb.params 79) [] :=
  F.bindsN fun _ _ _ _ _ _ us hl => match us, hl with | [_, _], _ => rfl
theorem bd80 (F : FunD K "_law_looser" "_law_looser" (defArgs (top 19)) (defBody (top 19)) (defScope (top 19)) [] [] f fd) : Binds K fd (tb.params 80) [] :=
  F.bindsN fun _ _ _ _ _ _ us hl => match us, hl with | [_, _], _ => rfl
theorem bd82 (F : FunD K "_law_constant" "_law_constant" (defArgs (top 20)) (defBody (top 20)) (defScope (top 20)) [] [] f fd) : Binds K fd (tb.params 82) [] :=
  F.bindsN fun _ _ _ _ _ _ us hl => match us, hl with | [_, _], _ => rfl
theorem bd81 (F : FunD K "_law_leaf" "_law_leaf" (defArgs (top 21)) (defBody (top 21)) (defScope (top 21)) [] [] f fd) : Binds K fd (tb.params 81) [] :=
  F.bindsN fun _ _ _ _ _ _ us hl => match us, hl with | [_, _, _], _ => rfl
theorem bd86 (F : FunD K "_law_loop" "_law_loop" (defArgs (top 22)) (defBody (top 22)) (defScope (top 22)) [] [] f fd) : Binds K fd (tb.params 86) [] :=
  F.bindsN fun _ _ _ _ _ _ us hl => match us, hl with | [_, _, _, _], _ => rfl
theorem bd84 (F : FunD K "_law_special" "_law_special" (defArgs (top 23)) (defBody (top 23)) (defScope (top 23)) [] [] f fd) : Binds K fd (tb.params 84) [] :=
  F.bindsN fun _ _ _ _ _ _ us hl => match us, hl with | [_, _, _, _], _ => rfl
theorem bd85 (F : FunD K "_law_taken" "_law_taken" (defArgs (top 24)) (defBody (top 24)) (defScope (top 24)) [] [] f fd) : Binds K fd (tb.params 85) [] :=
  F.bindsN fun _ _ _ _ _ _ us hl => match us, hl with | [_, _, _, _], _ => rfl
theorem bd83 (F : FunD K "_law_expression" "_law_expression" (defArgs (top 25)) (defBody (top 25)) (defScope (top 25)) [] [] f fd) : Binds K fd (tb.params 83) [] :=
  F.bindsN fun _ _ _ _ _ _ us hl => match us, hl with | [_, _, _, _], _ => rfl
theorem bd87 (F : FunD K "_law_loosened" "_law_loosened" (defArgs (top 26)) (defBody (top 26)) (defScope (top 26)) [] [] f fd) : Binds K fd (tb.params 87) [] :=
  F.bindsN fun _ _ _ _ _ _ us hl => match us, hl with | [_, _], _ => rfl
theorem bd88 (F : FunD K "_law_below" "_law_below" (defArgs (top 28)) (defBody (top 28)) (defScope (top 28)) [] [] f fd) : Binds K fd (tb.params 88) [] :=
  F.bindsN fun _ _ _ _ _ _ us hl => match us, hl with | [_, _], _ => rfl
theorem bd91 (F : FunD K "_law_all_below" "_law_all_below" (defArgs (top 29)) (defBody (top 29)) (defScope (top 29)) [] [] f fd) : Binds K fd (tb.params 91) [] :=
  F.bindsN fun _ _ _ _ _ _ us hl => match us, hl with | [_, _], _ => rfl
theorem bd90 (F : FunD K "_law_told" "_law_told" (defArgs (top 30)) (defBody (top 30)) (defScope (top 30)) [] [] f fd) : Binds K fd (tb.params 90) [] :=
  F.bindsN fun _ _ _ _ _ _ us hl => match us, hl with | [_, _, _], _ => rfl
theorem bd92 (F : FunD K "law" "law" (defArgs (top 31)) (defBody (top 31)) (defScope (top 31)) [] [] f fd) : Binds K fd (tb.params 92) [] :=
  F.bindsN fun _ _ _ _ _ _ us hl => match us, hl with | [_], _ => rfl
end
theorem txt {w : World} {K : PySem.W.Frag} {h : Heap} {mg : Str → Option Value} (X : K.In h) (G : h.Ns mainGlobals mg) (c : SaysM look w K) : Txt tb defs ⟨K, fun _ => 0, fun _ => []⟩ w mg where
  fn := by
    refine all_of (ids := rows) ?_
    refine ⟨?_, ?_, ?_, ?_, ?_, ?_, ?_, ?_, ?_, ?_, ?_, ?_, ?_, ?_, ?_, ?_, ?_, ?_, ?_, ?_, ?_, ?_, ?_, ?_, ?_, ?_, trivial⟩
    · obtain ⟨fd, F⟩ := c.def_ 0 (d := dd1) rfl
      exact ⟨_, fd, _, _, _, _, top 2, n1, b1, c.glo X G 0 (d := dd1) rfl, F, rfl, s1, m1, fun _ => bd1 F, fun h => absurd rfl h⟩
    · obtain ⟨fd, F⟩ := c.def_ 1 (d := dd60) rfl
      exact ⟨_, fd, _, _, _, _, top 5, n60, b60, c.glo X G 1 (d := dd60) rfl, F, rfl, s60, m60, fun _ => bd60 F, fun h => absurd rfl h⟩
    · obtain ⟨fd, F⟩ := c.def_ 2 (d := dd61) rfl
      exact ⟨_, fd, _, _, _, _, top 6, n61, b61, c.glo X G 2 (d := dd61) rfl, F, rfl, s61, m61, fun _ => bd61 F, fun h => absurd rfl h⟩
    · obtain ⟨fd, F⟩ := c.def_ 3 (d := dd62) rfl
      exact ⟨_, fd, _, _, _, _, top 7, n62, b62, c.glo X G 3 (d := dd62) rfl, F, rfl, s62, m62, fun _ => bd62 F, fun h => absurd rfl h⟩
    · obtain ⟨fd, F⟩ := c.def_ 4 (d := dd67) rfl
      exact ⟨_, fd, _, _, _, _, top 8, n67, b67, c.glo X G 4 (d := dd67) rfl, F, rfl, s67, m67, fun _ => bd67 F, fun h => absurd rfl h⟩
    · obtain ⟨fd, F⟩ := c.def_ 5 (d := dd63) rfl
      exact ⟨_, fd, _, _, _, _, top 9, n63, b63, c.glo X G 5 (d := dd63) rfl, F, rfl, s63, m63, fun _ => bd63 F, fun h => absurd rfl h⟩
    · obtain ⟨fd, F⟩ := c.def_ 6 (d := dd65) rfl
      exact ⟨_, fd, _, _, _, _, top 10, n65, b65, c.glo X G 6 (d := dd65) rfl, F, rfl, s65, m65, fun _ => bd65 F, fun h => absurd rfl h⟩
    · obtain ⟨fd, F⟩ := c.def_ 7 (d := dd64) rfl
      exact ⟨_, fd, _, _, _, _, top 11, n64, b64, c.glo X G 7 (d := dd64) rfl, F, rfl, s64, m64, fun _ => bd64 F, fun h => absurd rfl h⟩
    · obtain ⟨fd, F⟩ := c.def_ 8 (d := dd66) rfl
      exact ⟨_, fd, _, _, _, _, top 12, n66, b66, c.glo X G 8 (d := dd66) rfl, F, rfl, s66, m66, fun _ => bd66 F, fun h => absurd rfl h⟩
    · obtain ⟨fd, F⟩ := c.def_ 9 (d := dd77) rfl
      exact ⟨_, fd, _, _, _, _, top 13, n77, b77, c.glo X G 9 (d := dd77) rfl, F, rfl, s77, m77, fun _ => bd77 F, fun h => absurd rfl h⟩
    · obtain ⟨fd, F⟩ := c.def_ 10 (d := dd89) rfl
      exact ⟨_, fd, _, _, _, _, top 14, n89, b89, c.glo X G 10 (d := dd89) rfl, F, rfl, s89, m89, fun _ => bd89 F, fun h => absurd rfl h⟩
    · obtain ⟨fd, F⟩ := c.def_ 11 (d := dd14) rfl
      exact ⟨_, fd, _, _, _, _, top 16, n14, b14, c.glo X G 11 (d := dd14) rfl, F, rfl, s14, m14, fun _ => bd14 F, fun h => absurd rfl h⟩
    · obtain ⟨fd, F⟩ := c.def_ 12 (d := dd4) rfl
      exact ⟨_, fd, _, _, _, _, top 17, n4, b4, c.glo X G 12 (d := dd4) rfl, F, rfl, s4, m4, fun _ => bd4 F, fun h => absurd rfl h⟩
    · obtain ⟨fd, F⟩ := c.def_ 13 (d := dd79) rfl
      exact ⟨_, fd, _, _, _, _, top 18, n79, b79, c.glo X G 13 (d := dd79) rfl, F, rfl, s79, m79, fun _ => bd79 F, fun h => absurd rfl h⟩
    · obtain ⟨fd, F⟩ := c.def_ 14 (d := dd80) rfl
      exact ⟨_, fd, _, _, _, _, top 19, n80, b80, c.glo X G 14 (d := dd80) rfl, F, rfl, s80, m80, fun _ => bd80 F, fun h => absurd rfl h⟩
    · obtain ⟨fd, F⟩ := c.def_ 15 (d := dd82) rfl
      exact ⟨_, fd, _, _, _, _, top 20, n82, b82, c.glo X G 15 (d := dd82) rfl, F, rfl, s82, m82, fun _ => bd82 F, fun h => absurd rfl h⟩
    · obtain ⟨fd, F⟩ := c.def_ 16 (d := dd81) rfl
      exact ⟨_, fd, _, _, _, _, top 21, n81, b81, c.glo X G 16 (d := dd81) rfl, F, rfl, s81, m81, fun _ => bd81 F, fun h => absurd rfl h⟩
    · obtain ⟨fd, F⟩ := c.def_ 17 (d := dd86) rfl
      exact ⟨_, fd, _, _, _, _, top 22, n86, b86, c.glo X G 17 (d := dd86) rfl, F, rfl, s86, m86, fun _ => bd86 F, fun h => absurd rfl h⟩
    · obtain ⟨fd, F⟩ := c.def_ 18 (d := dd84) rfl
      exact ⟨_, fd, _, _, _, _, top 23, n84, b84, c.glo X G 18 (d := dd84) rfl, F, rfl, s84, m84, fun _ => bd84 F, fun h => absurd rfl h⟩
    · obtain ⟨fd, F⟩ := c.def_ 19 (d := dd85) rfl
      exact ⟨_, fd, _, _, _, _, top 24, n85, b85, c.glo X G 19 (d := dd85) rfl, F, rfl, s85, m85, fun _ => bd85 F, fun h => absurd rfl h⟩
    · obtain ⟨fd, F⟩ := c.def_ 20 (d := dd83) rfl
      exact ⟨_, fd, _, _, _, _, top 25, n83, b83, c.glo X G 20 (d := dd83) rfl, F, rfl, s83, m83, fun _ => bd83 F, fun h => absurd rfl h⟩
    · obtain ⟨fd, F⟩ := c.def_ 21 (d := dd87) rfl
      exact ⟨_, fd, _, _, _, _, top 26, n87, b87, c.glo X G 21 (d := dd87) rfl, F, rfl, s87, m87, fun _ => bd87 F, fun h => absurd rfl h⟩
    · obtain ⟨fd, F⟩ := c.def_ 22 (d := dd88) rfl
      exact ⟨_, fd, _, _, _, _, top 28, n88, b88, c.glo X G 22 (d := dd88) rfl, F, rfl, s88, m88, fun _ => bd88 F, fun h => absurd rfl h⟩
    · obtain ⟨fd, F⟩ := c.def_ 23 (d := dd91) rfl
      exact ⟨_, fd, _, _, _, _, top 29, n91, b91, c.glo X G 23 (d := dd91) rfl, F, rfl, s91, m91, fun _ => bd91 F, fun h => absurd rfl h⟩
    · obtain ⟨fd, F⟩ := c.def_ 24 (d := dd90) rfl
      exact ⟨_, fd, _, _, _, _, top 30, n90, b90, c.glo X G 24 (d := dd90) rfl, F, rfl, s90, m90, fun _ => bd90 F, fun h => absurd rfl h⟩
    · obtain ⟨fd, F⟩ := c.def_ 25 (d := dd92) rfl
      exact ⟨_, fd, _, _, _, _, top 31, n92, b92, c.glo X G 25 (d := dd92) rfl, F, rfl, s92, m92, fun _ => bd92 F, fun h => absurd rfl h⟩
  len := lens_of (by decide +kernel)
  glob := fun g d x h hx => by
    refine all_mem (l := gls) (P := fun g d => ∀ x ∈ tb.gname g, ∃ v u, mg x = some u ∧ RelV v u ∧ ∀ (M : Mp) (n : Nat), Rp ⟨K, fun _ => 0, fun _ => []⟩ M n d v) ?_ h x hx
    exact ⟨all_in (P := fun x => ∃ v u, mg x = some u ∧ RelV v u ∧ ∀ (M : Mp) (n : Nat), Rp ⟨K, fun _ => 0, fun _ => []⟩ M n (.tup [(.str "any")]) v) (l := ["ANY_types", "ANY_programs"]) ⟨c.glob X G (List.mem_of_getElem? (i := 0) rfl), c.glob X G (List.mem_of_getElem? (i := 1) rfl), trivial⟩, trivial⟩
  gd := fun g k d h => by
    refine all_dict (l := dts) (P := fun g k d => ∃ p v, mg (tb.dname g) = some (.ref p) ∧ KDct K w p k v ∧ ∀ (M : Mp) (n : Nat), Rp ⟨K, fun _ => 0, fun _ => []⟩ M n d v) ?_ h
    trivial
  bi := c.bi X G
theorem law_binds {K : PySem.W.Frag} {f : Addr} {fd : FuncData} (F : FunD K "law" "law" (defArgs (top 31)) (defBody (top 31)) (defScope (top 31)) [] [] f fd) (s : Shared) (v : Value) : BindsTo s fd ⟨[v], []⟩ [("_law_script", v)] :=
  F.bindsA (ps := ["_law_script"]) (fun _ _ _ _ _ _ us hl => match us, hl with | [_], _ => rfl) s [v] rfl
theorem all_mk {n : Nat} {P : Program} {w : World} {K : PySem.W.Frag} {h : Heap} {mg : Str → Option Value} {fa : Addr} (X : K.In h) (G : h.Ns mainGlobals mg) (hfa : mg "law" = some (.ref fa)) (c : SaysM look w K) :
    ∃ fd : FuncData, (∀ (s : Shared) (v : Value), BindsTo s fd ⟨[v], []⟩ [("_law_script", v)]) ∧ ∀ base : Heap, K.In base → base.Ns mainGlobals mg → FnG P w K mg base (n + 1) fa fd ["_law_script"] (spF ⟨K, fun _ => 0, fun _ => []⟩ 1 (callF prg defs (n + 1) 92)) := by
  obtain ⟨fd, F⟩ := c.def_ 25 (d := dd92) rfl
  have e := hfa.symm.trans (c.glo X G 25 (d := dd92) rfl)
  cases e
  refine ⟨fd, law_binds F, fun base _ _ => ?_⟩
  have e : callF prg defs (n + 1) 92 = runD prg (callP prg defs n).1 (callP prg defs n).2 fd92 := by
    funext ds S
    exact callF_at rfl
  rw [e]
  exact def_ok (T := tb) (mk := (callP prg defs n).2) (facts (txt X G c) n) F s92 m92
theorem walk {n : Nat} (hr : Room (n + 1) callerA) (run : ∀ ns : List Int, ns.length ≤ 63 → ∃ S, callF prg defs (n + 1) 92 [.scr (ns.map D.int)] [] = some (.bl true, S)) {l : PySem.W.OpenLaw} {q : Program} {loose : List Str} {XP : (Str → Option Value) → Heap → Prop} {YP : World → Heap → Prop} {d : DefRec} {K : Params → PySem.W.Frag} (hn : l.most = some 63) (hdf : d.params.defaults = []) (hnm : d.name = "law")
    (hY : ∀ (w : World) (h : Heap), YP w h → (K w.params).In h) (hc : ∀ w : World, SaysM look w (K w.params)) : PySem.W.WalkO q loose XP YP l.row.toRowW d [] (fun f vs => PySem.call f vs) :=
  g_walk (m := 63) (n := n + 1) (x := "_law_script") (sp := fun w => spF ⟨K w.params, fun _ => 0, fun _ => []⟩ 1 (callF prg defs (n + 1) 92)) hn (by decide) hdf hr hY (fun w mg fa h X G hfa => all_mk X G (by rw [← hnm]; exact hfa) (hc w)) fun _ _ a ns hl _ hS => law_promise (run ns hl) hS
abbrev lawN : Nat := 92
def lev : Nat := 59
section
theorem ite_no {P : Prg} {c m : CallF} {t : E} {a : Ss} {ρ : HN.Env} {S : Store} (h : evT P c m t ρ S = some (false, S)) : exS P c m (.ite t a .nil) ρ S = some (.nx ρ S) := by
  simp [exS, h, exSs]
theorem ite_yes {P : Prg} {c m : CallF} {t : E} {a b : Ss} {ρ : HN.Env} {S S1 : Store} (h : evT P c m t ρ S = some (true, S1)) : exS P c m (.ite t a b) ρ S = exSs P c m a ρ S1 := by
  simp [exS, h]
theorem or2 {P : Prg} {c m : CallF} {s t : E} {ρ : HN.Env} {S : Store} (h1 : evT P c m s ρ S = some (false, S)) (h2 : evT P c m t ρ S = some (false, S)) : evT P c m (.or (.cons s (.cons t .nil))) ρ S = some (false, S) := by
  simp [evT, evOrT, h1, h2]
theorem cut_toK {α : Type} (l : List α) (a : α) (r : List α) : cutD (l ++ a :: r) none (some (l.length : Int)) = l := by
  unfold cutD
  have e1 : HT.sIx (l ++ a :: r).length 0 none = 0 := rfl
  have e2 : HT.sIx (l ++ a :: r).length (l ++ a :: r).length (some (l.length : Int)) = l.length := by rw [HT.sIx_nat]; simp
  rw [e1, e2]
  simp
theorem cut_frK {α : Type} (l : List α) (a : α) (r : List α) : cutD (l ++ a :: r) (some ((l.length : Int) + 1)) none = r := by
  unfold cutD
  have e1 : HT.sIx (l ++ a :: r).length 0 (some ((l.length : Int) + 1)) = l.length + 1 := by
    rw [show ((l.length : Int) + 1) = ((l.length + 1 : Nat) : Int) by omega, HT.sIx_nat]; simp
  have e2 : HT.sIx (l ++ a :: r).length (l ++ a :: r).length none = (l ++ a :: r).length := rfl
  rw [e1, e2]
  simp
  exact List.take_of_length_le (by omega)
theorem at_app {α : Type} (l : List α) (a : α) (r : List α) : atI (l ++ a :: r) (l.length : Int) = some a := atI_of (j := l.length) (by simp) rfl
theorem split_at {l : List Ty} {q : Int} (h0 : 0 ≤ q) (h1 : q < l.length) : ∃ (a : List Ty) (x : Ty) (b : List Ty), l = a ++ x :: b ∧ q = (a.length : Int) := by
  have hk : q.toNat < l.length := by omega
  refine ⟨l.take q.toNat, l[q.toNat], l.drop (q.toNat + 1), ?_, ?_⟩
  · rw [← List.drop_eq_getElem_cons hk, List.take_append_drop]
  · rw [List.length_take]; omega
def lb : Ss := match b92.drop 6 with
  | .cons (.forS _ _ _ b) _ => b
  | _ => .nil
theorem ile (e : Ex) (s t : List Ty) (hs : s.length = e.notes.length) (ht : t.length = e.notes.length) (S : Store) (hn : e.ht ≤ 40) (hz : e.sz ≤ 400000) (hh : ∀ u ∈ s, u.h ≤ 8) : callF prg defs 59 89 [(e.put s).d, (e.put t).d] S = some (.bl (leL s t), S) :=
  ile_run (P := prg) (defs := defs) rfl rfl rfl rfl rfl rfl rfl rfl rfl rfl rfl rfl e s t hs ht (n := 58) S (by omega) hz (fun u hu => by have := hh u hu; omega) (by omega)
theorem told (e : Ex) (s t : List Ty) (hs : s.length = e.notes.length) (ht : t.length = e.notes.length) (S : Store) (hn : e.ht ≤ 40) (hz : e.sz ≤ 400000) (hh : ∀ u ∈ s, u.h ≤ 8) : callF prg defs 59 90 [(e.put s).d, (e.put t).d, .bl (leL s t)] S = some (.bl true, S) :=
  told_run (P := prg) (defs := defs) rfl (n := 58) (ile_run (P := prg) (defs := defs) rfl rfl rfl rfl rfl rfl rfl rfl rfl rfl rfl rfl e s t hs ht (n := 57) S (by omega) hz (fun u hu => by have := hh u hu; omega) (by omega))
theorem turn {mk : CallF} {s0 s1 s2 s3 s4 s5 s6 s7 s8 s9 s10 s11 : Slot} (e : Ex) (x y : List Ty) (hx : x.length = e.notes.length) (hy : y.length = e.notes.length) (hn : e.ht ≤ 40) (hz : e.sz ≤ 400000) (hhx : ∀ u ∈ x, u.h ≤ 8) (hhy : ∀ u ∈ y, u.h ≤ 8) (S : Store) (hl : leL x y = true) :
    turnF true [7] none (exSs prg (callF prg defs 59) mk lb) (.tup [(e.put x).d, (e.put y).d]) [s0, s1, s2, s3, s4, s5, s6, s7, s8, s9, s10, s11] S = some (.nx [s0, s1, s2, s3, s4, s5, s6, .val (.tup [(e.put x).d, (e.put y).d]), s8, s9, s10, s11] S) := by
  have p1 := ile e x y hx hy S hn hz hhx
  have p2 := told e y x hy hx S hn hz hhy
  have p3 := all_run (P := prg) (defs := defs) rfl rfl rfl rfl rfl rfl e y x hy hx (n := 58) S (by decide) hz (fun u hu => by have := hhy u hu; omega)
  rw [hl] at p1
  generalize (e.put x).d = X at *
  generalize (e.put y).d = Y at *
  have body : exSs prg (callF prg defs 59) mk lb [s0, s1, s2, s3, s4, s5, s6, .val (.tup [X, Y]), s8, s9, s10, s11] S = some (.nx [s0, s1, s2, s3, s4, s5, s6, .val (.tup [X, Y]), s8, s9, s10, s11] S) := by
    simp only [lb, b92, Ss.drop]
    rw [exS_nx (ite_no (by simp [evT, evE, evEs, getV, ix_t, at0, at1, p1, cmpD, isD]))]
    rw [exS_nx (ite_no (by simp [evT, evE, evEs, getV, ix_t, at0, at1, p2, p3, truD]))]
    rfl
  show ((putT _ true [7] (.tup [X, Y])).bind fun ρ2 => _) = _
  simp [turnF, putT, putV, body, kept_none]
theorem law_run : ∀ ns : List Int, ns.length ≤ 63 → ∃ S, callF prg defs (lev + 1) lawN [.scr (ns.map D.int)] [] = some (.bl true, S) := fun ns hl => by
  obtain ⟨S0, g0, e0⟩ := state_ok (P := prg) (defs := defs) (n := 58) rfl hl
  obtain ⟨T, S1, g1, hT, e1⟩ := type79_ok (P := prg) (defs := defs) rfl rfl 2 2 (n := 59) g0 (by decide) (by decide)
  obtain ⟨r, S2, g2, r0, r9, e2⟩ := take_ok (P := prg) (defs := defs) (n := 58) rfl g1 (most := 4) (by decide) (by decide)
  obtain ⟨d, hd, em⟩ : ∃ d : Nat, (1 ≤ d ∧ d ≤ 4) ∧ 1 + r = (d : Int) := ⟨(1 + r).toNat, by omega, by omega⟩
  obtain ⟨e, S3, g3, o, e3⟩ := expr_ok (P := prg) (defs := defs) rfl rfl rfl rfl rfl rfl rfl rfl d T 59 S2 [] g2 (fun p hp => by simp at hp) (by simp only [List.length_nil]; omega) (by omega)
  have wT := tw_h (k := 3) hT
  have hew : e.ew ≤ 240480 := by
    have h1 := o.ew
    have h2 := EW_mono d (show T.tw ≤ 56 by omega)
    have c : d = 1 ∨ d = 2 ∨ d = 3 ∨ d = 4 := by omega
    have h3 : EW d 56 ≤ 240480 := by rcases c with rfl | rfl | rfl | rfl <;> decide
    omega
  have hht : e.ht ≤ 28 := by have := o.ht; omega
  have hth : ∀ t ∈ e.notes, t.h ≤ 8 := fun t ht => by have := o.th t ht; omega
  have hsz : e.sz ≤ 240480 := Nat.le_trans e.sz_ew hew
  have hnl := e.notes_len
  obtain ⟨s, S4, g4, ls, le1, e4⟩ := loosened_ok (P := prg) (defs := defs) rfl rfl rfl (k := 8) e (n := 59) g3 (by omega) hth
  obtain ⟨z1, z2, z3⟩ := e.put_sz s
  have ns1 := e.notes_put s (by omega)
  rw [← ls, List.take_length] at ns1
  have hs8 : ∀ t ∈ s, t.h ≤ 8 := leL_mem ls le1 hth
  obtain ⟨u, S5, g5, lu, le2, e5⟩ := loosened_ok (P := prg) (defs := defs) rfl rfl rfl (k := 8) (e.put s) (n := 59) g4 (by omega) (by rw [ns1]; exact hs8)
  rw [ns1] at lu le2
  rw [e.put_put s u (by omega)] at e5
  have hu8 : ∀ t ∈ u, t.h ≤ 8 := leL_mem lu le2 hs8
  have lu' : u.length = e.notes.length := by omega
  have le3 : leL u e.notes = true := leL_trans lu le2 le1
  have lA : (anyL e.notes.length).length = e.notes.length := by simp [anyL]
  have hA8 : ∀ t ∈ anyL e.notes.length, t.h ≤ 8 := fun t ht => by have := any_h t ht; omega
  have pself := e.put_self
  -- told as text
  have n2 := e.notes_put u (by omega)
  rw [← lu', List.take_length] at n2
  obtain ⟨z4, z5, z6⟩ := e.put_sz u
  have w1 := e.put_ew s le1
  have w2 := e.put_ew u le3
  have dd0 := e.dep_th hth
  have dd1 := (e.put s).dep_th (k := 8) (by rw [ns1]; exact hs8)
  have dd2 := (e.put u).dep_th (k := 8) (by rw [n2]; exact hu8)
  obtain ⟨x, ex⟩ : ∃ x, reprD (.tup [e.d, (e.put s).d, (e.put u).d]) = some (.str x) := by
    refine ⟨_, repr_some ?_ ?_ ?_ ?_ ?_⟩
    · simp [D.data, D.dataL, Ex.data]
    · simp [D.dep]
    · simp only [D.dep, D.depL]; omega
    · simp [D.nice, D.niceL, Ex.nice_k e o.gk, Ex.nice_k _ (e.put_gk s o.gk), Ex.nice_k _ (e.put_gk u o.gk)]
    · simp only [Ex.ew] at hew w1 w2
      simp only [toPy, toPyL, PyData.weight, PyData.weightAll]
      omega
  -- the five pairs
  let mk : CallF := (callP prg defs 59).2
  let x0 : Slot := .val (.scr (ns.map D.int))
  have an := annot_run (P := prg) (defs := defs) rfl rfl rfl rfl e (n := 56) S5 (by omega)
  have er := erased_run (P := prg) (defs := defs) rfl rfl rfl rfl rfl rfl rfl rfl rfl rfl e (n := 58) S5 (by omega) (by omega)
  have p1 := fun s7 => turn (mk := mk) (s0 := x0) (s1 := .val (.ref 1)) (s2 := .val e.d) (s3 := .val (e.put s).d) (s4 := .val (e.put u).d) (s5 := .val (.str x)) (s6 := .val (.lst (e.notes.map Ty.d))) (s7 := s7) (s8 := .un) (s9 := .un) (s10 := .un) (s11 := .un) e e.notes e.notes rfl rfl (by omega) (by omega) hth hth S5 (leL_refl _)
  have p2 := fun s7 => turn (mk := mk) (s0 := x0) (s1 := .val (.ref 1)) (s2 := .val e.d) (s3 := .val (e.put s).d) (s4 := .val (e.put u).d) (s5 := .val (.str x)) (s6 := .val (.lst (e.notes.map Ty.d))) (s7 := s7) (s8 := .un) (s9 := .un) (s10 := .un) (s11 := .un) e s e.notes ls rfl (by omega) (by omega) hs8 hth S5 le1
  have p3 := fun s7 => turn (mk := mk) (s0 := x0) (s1 := .val (.ref 1)) (s2 := .val e.d) (s3 := .val (e.put s).d) (s4 := .val (e.put u).d) (s5 := .val (.str x)) (s6 := .val (.lst (e.notes.map Ty.d))) (s7 := s7) (s8 := .un) (s9 := .un) (s10 := .un) (s11 := .un) e u s lu' ls (by omega) (by omega) hu8 hs8 S5 le2
  have p4 := fun s7 => turn (mk := mk) (s0 := x0) (s1 := .val (.ref 1)) (s2 := .val e.d) (s3 := .val (e.put s).d) (s4 := .val (e.put u).d) (s5 := .val (.str x)) (s6 := .val (.lst (e.notes.map Ty.d))) (s7 := s7) (s8 := .un) (s9 := .un) (s10 := .un) (s11 := .un) e u e.notes lu' rfl (by omega) (by omega) hu8 hth S5 le3
  have p5 := fun s7 => turn (mk := mk) (s0 := x0) (s1 := .val (.ref 1)) (s2 := .val e.d) (s3 := .val (e.put s).d) (s4 := .val (e.put u).d) (s5 := .val (.str x)) (s6 := .val (.lst (e.notes.map Ty.d))) (s7 := s7) (s8 := .un) (s9 := .un) (s10 := .un) (s11 := .un) e (anyL e.notes.length) u lA lu' (by omega) (by omega) hA8 hu8 S5 (leL_any _ _)
  rw [pself] at p1 p2 p4
  -- the changed one
  obtain ⟨S6, s9', s10', s11', ec⟩ : ∃ (S6 : Store) (s9' s10' s11' : Slot), exS prg (callF prg defs 59) mk (match b92.drop 7 with
      | .cons i _ => i
      | _ => .pass) [x0, .val (.ref 1), .val e.d, .val (e.put s).d, .val (e.put u).d, .val (.str x), .val (.lst (e.notes.map Ty.d)), .val (.tup [(e.put (anyL e.notes.length)).d, (e.put u).d]), .un, .un, .un, .un] S5 = some (.nx [x0, .val (.ref 1), .val e.d, .val (e.put s).d, .val (e.put u).d, .val (.str x), .val (.lst (e.notes.map Ty.d)), .val (.tup [(e.put (anyL e.notes.length)).d, (e.put u).d]), .un, s9', s10', s11'] S6) := by
    generalize e.put (anyL e.notes.length) = PA
    by_cases h0 : e.notes.length = 0
    · refine ⟨S5, .un, .un, .un, ?_⟩
      have h0' : e.notes = [] := List.eq_nil_of_length_eq_zero h0
      simp [b92, Ss.drop, exS, evT, evE, evEs, getV, biD, one1, lenD, cmpD, h0', exSs]
    · obtain ⟨q, S6, g6, q0, q9, e6⟩ := take_ok (P := prg) (defs := defs) (n := 58) rfl g5 (most := (e.notes.length : Int)) (by omega) (by omega)
      obtain ⟨T', S7, g7, hT', e7⟩ := type79_ok (P := prg) (defs := defs) rfl rfl 3 3 (n := 59) g6 (by decide) (by decide)
      obtain ⟨l, a, rr, hL, hq⟩ := split_at q0 q9
      have hc : (l ++ T' :: rr).length = e.notes.length := by rw [hL]; simp
      have ha : a.h ≤ 8 := hth a (by rw [hL]; simp)
      have hc8 : ∀ t ∈ l ++ T' :: rr, t.h ≤ 8 := fun t ht => by
        rcases List.mem_append.mp ht with ht | ht
        · exact hth t (by rw [hL]; exact List.mem_append_left _ ht)
        · rcases List.mem_cons.mp ht with rfl | ht
          · omega
          · exact hth t (by rw [hL]; exact List.mem_append_right _ (List.mem_cons_of_mem _ ht))
      have wr := with_run (P := prg) (defs := defs) rfl rfl rfl rfl rfl rfl e (l ++ T' :: rr) (n := 58) S7 (by omega) (by omega)
      have t1 := told e (l ++ T' :: rr) e.notes hc rfl S7 (by omega) (by omega) hc8
      have t2 := told e e.notes (l ++ T' :: rr) rfl hc S7 (by omega) (by omega) hth
      have v1 := below_run (P := prg) (defs := defs) rfl T' a (n := 59) S7 (by omega)
      have v2 := below_run (P := prg) (defs := defs) rfl a T' (n := 59) S7 (by omega)
      have k1 : leL (l ++ T' :: rr) e.notes = T'.le a := by rw [hL, leL_one]
      have k2 : leL e.notes (l ++ T' :: rr) = a.le T' := by rw [hL, leL_one]
      rw [k1, pself] at t1
      rw [k2, pself] at t2
      have c1 : cutD (e.notes.map Ty.d) none (some q) = l.map Ty.d := by
        rw [hL, hq, List.map_append, List.map_cons]
        have := cut_toK (l.map Ty.d) a.d (rr.map Ty.d)
        rwa [List.length_map] at this
      have c2 : cutD (e.notes.map Ty.d) (some (q + 1)) none = rr.map Ty.d := by
        rw [hL, hq, List.map_append, List.map_cons]
        have := cut_frK (l.map Ty.d) a.d (rr.map Ty.d)
        rwa [List.length_map] at this
      have i1 : atI (e.notes.map Ty.d) q = some a.d := by
        rw [hL, hq, List.map_append, List.map_cons]
        have := at_app (l.map Ty.d) a.d (rr.map Ty.d)
        rwa [List.length_map] at this
      have i2 : atI ((l ++ T' :: rr).map Ty.d) q = some T'.d := by
        rw [hq, List.map_append, List.map_cons]
        have := at_app (l.map Ty.d) T'.d (rr.map Ty.d)
        rwa [List.length_map] at this
      have hlen : l.length + (rr.length + 1) = e.notes.length := by rw [hL]; simp
      have b1 : binD .add (.lst (l.map Ty.d)) (.lst [T'.d]) = some (.lst (l.map Ty.d ++ [T'.d])) := by
        have z : l.length + 1 ≤ 16777216 := by omega
        simp [binD, szOk, z]
      have b2 : binD .add (.lst (l.map Ty.d ++ [T'.d])) (.lst (rr.map Ty.d)) = some (.lst ((l ++ T' :: rr).map Ty.d)) := by
        have z : l.length + 1 + rr.length ≤ 16777216 := by omega
        simp [binD, szOk, z]
      have b3 : binD .add (.int q) (.int 1) = some (.int (q + 1)) := rfl
      have ln : lenD S5 (.lst (e.notes.map Ty.d)) = some (.int e.notes.length) := by simp [lenD]
      have pos : (0 : Int) < (e.notes.length : Int) := by omega
      refine ⟨S7, .val (.int q), .val (.lst ((l ++ T' :: rr).map Ty.d)), .val (e.put (l ++ T' :: rr)).d, ?_⟩
      generalize (l ++ T' :: rr).map Ty.d = C at *
      generalize l.map Ty.d = N1 at *
      generalize rr.map Ty.d = N2 at *
      generalize (e.put (l ++ T' :: rr)).d = Q at *
      generalize e.put s = E1
      generalize e.put u = E2
      generalize e.notes.map Ty.d = N at *
      generalize (e.notes.length : Int) = L at *
      simp only [b92, Ss.drop]
      have ht : evT prg (callF prg defs 59) mk (.cmp .gt (.bi .len (.cons (.var 6) .nil)) (.int 0)) [x0, .val (.ref 1), .val e.d, .val E1.d, .val E2.d, .val (.str x), .val (.lst N), .val (.tup [PA.d, E2.d]), .un, .un, .un, .un] S5 = some (true, S5) := by
        simp [evT, evE, evEs, getV, biD, one1, ln, cmpD, pos]
      rw [ite_yes ht]
      rw [exS_nx (ρ1 := [x0, .val (.ref 1), .val e.d, .val E1.d, .val E2.d, .val (.str x), .val (.lst N), .val (.tup [PA.d, E2.d]), .un, .val (.int q), .un, .un]) (S1 := S6) (by simp [exS, evE, evEs, getV, putV, biD, one1, ln, e6])]
      rw [exS_nx (ρ1 := [x0, .val (.ref 1), .val e.d, .val E1.d, .val E2.d, .val (.str x), .val (.lst N), .val (.tup [PA.d, E2.d]), .un, .val (.int q), .val (.lst C), .un]) (S1 := S7) (by simp [exS, evE, evEs, evL, getV, putV, sliceD, isAbs, partD, e7, c1, c2, b1, b2, b3, szOk])]
      rw [exS_nx (ρ1 := [x0, .val (.ref 1), .val e.d, .val E1.d, .val E2.d, .val (.str x), .val (.lst N), .val (.tup [PA.d, E2.d]), .un, .val (.int q), .val (.lst C), .val Q]) (S1 := S7) (by simp [exS, evE, evEs, getV, putV, wr])]
      rw [exS_nx (ite_no (by simp [evT, evE, evEs, getV, ix_l, i1, i2, v1, t1, truD]))]
      rw [exS_nx (ite_no (by simp [evT, evE, evEs, getV, ix_l, i1, i2, v2, t2, truD]))]
      rfl
  -- another expression inside
  have sn : (Ex.two .pair e .unit).notes.length = e.notes.length := by simp [Ex.notes]
  have sp : ∀ t, ((Ex.two .pair e .unit).put t).d = .tup [.str "pair", (e.put t).d, .tup [.str "unit"]] := fun t => rfl
  have sh : (Ex.two .pair e .unit).ht ≤ 29 := by simp only [Ex.ht]; omega
  have sz : (Ex.two .pair e .unit).sz ≤ 300000 := by simp only [Ex.sz]; omega
  have y1 : callF prg defs 59 89 [.tup [.str "pair", e.d, .tup [.str "unit"]], e.d] S6 = some (.bl false, S6) := by
    refine ile_no (P := prg) (defs := defs) rfl rfl rfl rfl rfl rfl rfl rfl rfl rfl rfl rfl (.two .pair e .unit) e (n := 58) S6 (by omega) (by omega) (by omega) (by omega) ?_
    rw [sn]
    refine eq_depE (Ex.data _) (Ex.data _) ?_ ?_
    · have := Ex.dep_th ((Ex.two .pair e .unit).put (anyL e.notes.length)) (k := 8) (by
        rw [Ex.notes_put _ _ (by omega)]
        exact fun t ht => hA8 t (List.mem_of_mem_take ht))
      have := ((Ex.two .pair e .unit).put_sz (anyL e.notes.length)).2.1
      omega
    · rw [sp]
      simp only [D.dep, D.depL]
      omega
  have y2 : callF prg defs 59 89 [.tup [.str "pair", (e.put s).d, .tup [.str "num", .int 1]], .tup [.str "pair", e.d, .tup [.str "unit"]]] S6 = some (.bl false, S6) := by
    refine ile_no (P := prg) (defs := defs) rfl rfl rfl rfl rfl rfl rfl rfl rfl rfl rfl rfl (.two .pair (e.put s) (.num 1)) (.two .pair e .unit) (n := 58) S6 (by simp only [Ex.ht]; omega) (by omega) (by simp only [Ex.sz]; omega) (by omega) ?_
    have sn2 : (Ex.two .pair (e.put s) (.num 1)).notes.length = e.notes.length := by simp [Ex.notes, z3]
    rw [sn, sn2]
    show eqD (.tup [.str "pair", ((e.put s).put (anyL e.notes.length)).d, .tup [.str "num", .int 1]]) (.tup [.str "pair", (e.put (anyL e.notes.length)).d, .tup [.str "unit"]]) = _
    rw [e.put_put s _ (by omega)]
    have dq := Ex.dep_th (e.put (anyL e.notes.length)) (k := 8) (by
        rw [Ex.notes_put _ _ (by omega)]
        exact fun t ht => hA8 t (List.mem_of_mem_take ht))
    have hq := (e.put_sz (anyL e.notes.length)).2.1
    have dt := Ex.data (e.put (anyL e.notes.length))
    generalize (e.put (anyL e.notes.length)).d = Z at dq dt ⊢
    unfold eqD
    rw [if_pos (by simp [D.data, D.dataL, dt, D.dep, D.depL]; omega)]
    simp [D.eqv, D.eqvL, str_beq]
  have y3 : callF prg defs 59 89 [.tup [.str "pair", (e.put s).d, .tup [.str "unit"]], .tup [.str "pair", e.d, .tup [.str "unit"]]] S6 = some (.bl true, S6) := by
    have := ile (.two .pair e .unit) s e.notes (by omega) (by omega) S6 (by omega) (by omega) hs8
    rw [le1, sp, sp, pself] at this
    exact this
  generalize hN : e.notes.map Ty.d = N at *
  generalize hX : e.put s = E1 at *
  generalize hY : e.put u = E2 at *
  generalize hZ : e.put (anyL e.notes.length) = E3 at *
  refine law_of (n := 59) (k := 2) (f := lawN) (fd := fd92) (ρ1 := [x0, .val (.ref 1), .val e.d, .un, .un, .un, .un, .un, .un, .un, .un, .un]) (S1 := S3) (S2 := S6) rfl rfl ?_ ?_
  · show exSs prg (callF prg defs 59) _ (b92.take 2) (startD 12 [.scr (ns.map D.int)]) [] = _
    have e3' : callF prg defs 59 83 [.ref 1, .lst [], T.d, .int (1 + r)] S2 = some (e.d, S3) := by rw [em]; exact e3
    simp only [b92, Ss.take]
    rw [exS_nx (ρ1 := [x0, .val (.ref 1), .un, .un, .un, .un, .un, .un, .un, .un, .un, .un]) (S1 := S0) (by simp [exS, startD, evE, evEs, getV, putV, e0, x0])]
    have bq : binD .add (.int 1) (.int r) = some (.int (1 + r)) := rfl
    rw [exS_nx (ρ1 := [x0, .val (.ref 1), .val e.d, .un, .un, .un, .un, .un, .un, .un, .un, .un]) (S1 := S3) (by simp [exS, evE, evEs, evL, getV, putV, szOk, e1, e2, bq, e3'])]
    rfl
  · show exSs prg (callF prg defs 59) mk (b92.drop 2) _ _ = _
    simp only [b92, Ss.drop] at ec ⊢
    rw [exS_nx (ρ1 := [x0, .val (.ref 1), .val e.d, .val E1.d, .un, .un, .un, .un, .un, .un, .un, .un]) (S1 := S4) (by simp [exS, evE, evEs, getV, putV, e4])]
    rw [exS_nx (ρ1 := [x0, .val (.ref 1), .val e.d, .val E1.d, .val E2.d, .un, .un, .un, .un, .un, .un, .un]) (S1 := S5) (by simp [exS, evE, evEs, getV, putV, e5])]
    rw [exS_nx (ρ1 := [x0, .val (.ref 1), .val e.d, .val E1.d, .val E2.d, .val (.str x), .un, .un, .un, .un, .un, .un]) (S1 := S5) (by simp [exS, evE, evEs, getV, putV, szOk, biD, one1, ex])]
    rw [exS_nx (ρ1 := [x0, .val (.ref 1), .val e.d, .val E1.d, .val E2.d, .val (.str x), .val (.lst N), .un, .un, .un, .un, .un]) (S1 := S5) (by simp [exS, evE, evEs, getV, putV, an])]
    have ef : forD (turnF true [7] none (exSs prg (callF prg defs 59) mk lb)) [.tup [e.d, e.d], .tup [E1.d, e.d], .tup [E2.d, E1.d], .tup [E2.d, e.d], .tup [E3.d, E2.d]] [x0, .val (.ref 1), .val e.d, .val E1.d, .val E2.d, .val (.str x), .val (.lst N), .un, .un, .un, .un, .un] S5 = some (.nx [x0, .val (.ref 1), .val e.d, .val E1.d, .val E2.d, .val (.str x), .val (.lst N), .val (.tup [E3.d, E2.d]), .un, .un, .un, .un] S5) := by
      simp only [forD, p1, p2, p3, p4, p5, Option.bind_some]
    rw [exS_nx (ρ1 := [x0, .val (.ref 1), .val e.d, .val E1.d, .val E2.d, .val (.str x), .val (.lst N), .val (.tup [E3.d, E2.d]), .un, .un, .un, .un]) (S1 := S5) (by
      have ev : evI prg (callF prg defs 59) mk (.e (.frz (.disp (.cons (.tup (.cons (.var 2) (.cons (.var 2) .nil))) (.cons (.tup (.cons (.var 3) (.cons (.var 2) .nil))) (.cons (.tup (.cons (.var 4) (.cons (.var 3) .nil))) (.cons (.tup (.cons (.var 4) (.cons (.var 2) .nil))) (.cons (.tup (.cons (.call 77 (.cons (.var 2) .nil)) (.cons (.var 4) .nil))) .nil)))))))) [x0, .val (.ref 1), .val e.d, .val E1.d, .val E2.d, .val (.str x), .val (.lst N), .un, .un, .un, .un, .un] S5 = some (([.tup [e.d, e.d], .tup [E1.d, e.d], .tup [E2.d, E1.d], .tup [E2.d, e.d], .tup [E3.d, E2.d]], none), S5) := by
        simp [evI, evE, evEs, evL, getV, szOk, er, itemsD]
      show exS prg _ _ (.forS [7] true _ lb) _ _ = _
      simp only [exS, ev, Option.bind_some, ef])]
    rw [exS_nx ec]
    rw [exS_nx (ρ1 := [x0, .val (.ref 1), .val e.d, .val E1.d, .val E2.d, .val (.str x), .val (.lst N), .val (.tup [E3.d, E2.d]), .val (.tup [.str "pair", e.d, .tup [.str "unit"]]), s9', s10', s11']) (S1 := S6) (by simp [exS, evE, evEs, getV, putV, szOk])]
    rw [exS_nx (ite_no (or2 (by simp [evT, evE, evEs, getV, y1, cmpD, isD]) (by simp [evT, evE, evEs, getV, szOk, y2, cmpD, isD])))]
    simp [exSs, exS, evE, evEs, evAnd, getV, szOk, y3, cmpD, isD, biD, one1, ex, eq_str, truD]
end
end K21
open PySem PySem.W PyProof.Rows
set_option maxRecDepth 100000 in
set_option maxHeartbeats 0 in
theorem PySem.Challenge.cw_halfnoted_k21_less_exact_programs_holds : PySem.Challenge.rw_halfnoted_k21_less_exact_programs.Holds := by
  w_on; o_law; k_head; (case hw => w_witness2)
  k_fill
  refine K21.walk (n := K21.lev) (by exact ⟨rfl, by decide, by decide⟩) K21.law_run (l := PySem.Challenge.rw_halfnoted_k21_less_exact_programs) rfl rfl rfl (fun w h Y => PySem.W.kIn_of Y) fun w => ?_
  refine HN.says_of ?_
  kernel_rfl
