import PyProof.Rows.All
import Wide.All
import OpenK.AllK
import Wide.FinOn
import HandS.ForMost
import KE.LtData
import KE.SortLaws
import KE.SortData
import HandS.TupAny
import HandS.TupMul
import HandS.Deep
import HandS.Text
import KE.DataCmp
import HandS.Small
import HandS.WordsDict
import HandS.Star
import HandS.Walk
import HandS.Zip
import KE.GoesMore
import PyProof.Draws
import PyProof.EnumMake
import HandS.Comp
import HandS.DictComp
import HandS.Conv
import HandS.More
import HandS.Codes
import HandS.Style
import HandS.HeadWalk
import HandS.Defaults
import HandS.Head0
import HandS.Head1
import HandS.Head2
import HandS.HeadEnd
import HandS.HeadHook4
import KE.KStateDown
import Lean
import KE.BitLaws
import KE.KSortTupAny
import PySem.Challenge.RW_sayagainst_k79_whole_conditions_that_lea
section
set_option maxRecDepth 512
set_option maxHeartbeats 200000
set_option Elab.async false
set_option linter.all false
set_option autoImplicit false
/-! Fw1: a small language of values: data, cells, expressions, statements, and what they evaluate to. -/
namespace Fw
abbrev Str := PySem.Str

/-! ### data -/
inductive D where
  | non | bl (b : Bool) | int (i : Int) | str (s : Str)
  | tup (xs : List D) | lst (xs : List D) | dic (kvs : List (D × D)) | set (xs : List D) | ref (n : Nat) | inp (xs : List D)
  deriving Inhabited

mutual
def D.py : D → PySem.PyData
  | .non => .none
  | .bl b => .bool b
  | .int i => .int i
  | .str s => .str s
  | .tup xs => .tuple (D.pys xs)
  | .lst xs => .list (D.pys xs)
  | .dic _ => .none
  | .set _ => .none
  | .ref _ => .none
  | .inp _ => .none
def D.pys : List D → List PySem.PyData
  | [] => []
  | x :: xs => D.py x :: D.pys xs
end
mutual
def D.isPy : D → Bool
  | .non => true
  | .bl _ => true
  | .int _ => true
  | .str _ => true
  | .tup xs => D.isPys xs
  | .lst xs => D.isPys xs
  | .dic _ => false
  | .set _ => false
  | .ref _ => false
  | .inp _ => false
def D.isPys : List D → Bool
  | [] => true
  | x :: xs => D.isPy x && D.isPys xs
end
mutual
/-- no reference from b on -/
def D.okR (b : Nat) : D → Bool
  | .non => true
  | .bl _ => true
  | .int _ => true
  | .str _ => true
  | .tup xs => D.okRs b xs
  | .lst xs => D.okRs b xs
  | .dic kvs => D.okRk b kvs
  | .set xs => D.okRs b xs
  | .ref n => decide (n < b)
  | .inp xs => D.okRs b xs
def D.okRs (b : Nat) : List D → Bool
  | [] => true
  | x :: xs => D.okR b x && D.okRs b xs
def D.okRk (b : Nat) : List (D × D) → Bool
  | [] => true
  | (k, v) :: r => D.okR b k && D.okR b v && D.okRk b r
end
mutual
/-- the very same -/
def D.same : D → D → Bool
  | .non, .non => true
  | .bl a, .bl b => a == b
  | .int i, .int j => i == j
  | .str x, .str y => decide (x = y)
  | .tup xs, .tup ys => D.sames xs ys
  | .lst xs, .lst ys => D.sames xs ys
  | .dic xs, .dic ys => D.samek xs ys
  | .set xs, .set ys => D.sames xs ys
  | .ref n, .ref m => n == m
  | .inp xs, .inp ys => D.sames xs ys
  | _, _ => false
def D.sames : List D → List D → Bool
  | [], [] => true
  | x :: xs, y :: ys => D.same x y && D.sames xs ys
  | _, _ => false
def D.samek : List (D × D) → List (D × D) → Bool
  | [], [] => true
  | (k, v) :: r, (k', v') :: r' => D.same k k' && D.same v v' && D.samek r r'
  | _, _ => false
end

theorem D.pys_map : ∀ xs : List D, D.pys xs = xs.map D.py
  | [] => rfl
  | x :: xs => by rw [D.pys, D.pys_map xs]; rfl
theorem D.isPys_all : ∀ xs : List D, D.isPys xs = xs.all D.isPy
  | [] => rfl
  | x :: xs => by rw [D.isPys, D.isPys_all xs]; rfl
theorem D.okRs_all (b : Nat) : ∀ xs : List D, D.okRs b xs = xs.all (D.okR b)
  | [] => rfl
  | x :: xs => by rw [D.okRs, D.okRs_all b xs]; rfl

mutual
theorem D.same_refl : ∀ d : D, D.same d d = true
  | .non => rfl
  | .bl b => by simp [D.same]
  | .int i => by simp [D.same]
  | .str s => by simp [D.same]
  | .tup xs => by rw [D.same]; exact D.sames_refl xs
  | .lst xs => by rw [D.same]; exact D.sames_refl xs
  | .dic kvs => by rw [D.same]; exact D.samek_refl kvs
  | .set xs => by rw [D.same]; exact D.sames_refl xs
  | .ref n => by simp [D.same]
  | .inp xs => by rw [D.same]; exact D.sames_refl xs
theorem D.sames_refl : ∀ xs : List D, D.sames xs xs = true
  | [] => rfl
  | x :: xs => by rw [D.sames, D.same_refl x, D.sames_refl xs]; rfl
theorem D.samek_refl : ∀ xs : List (D × D), D.samek xs xs = true
  | [] => rfl
  | (k, v) :: r => by rw [D.samek, D.same_refl k, D.same_refl v, D.samek_refl r]; rfl
end
mutual
theorem D.same_eq : ∀ d e : D, D.same d e = true → d = e
  | .non, e, h => by cases e <;> simp [D.same] at h ⊢
  | .bl b, e, h => by cases e <;> simp [D.same] at h ⊢; exact h
  | .int i, e, h => by cases e <;> simp [D.same] at h ⊢; exact h
  | .str s, e, h => by cases e <;> simp [D.same] at h ⊢; exact h
  | .tup xs, e, h => by
    cases e <;> simp [D.same] at h ⊢
    exact D.sames_eq _ _ h
  | .lst xs, e, h => by
    cases e <;> simp [D.same] at h ⊢
    exact D.sames_eq _ _ h
  | .dic kvs, e, h => by
    cases e <;> simp [D.same] at h ⊢
    exact D.samek_eq _ _ h
  | .set xs, e, h => by
    cases e <;> simp [D.same] at h ⊢
    exact D.sames_eq _ _ h
  | .ref n, e, h => by cases e <;> simp [D.same] at h ⊢; exact h
  | .inp xs, e, h => by
    cases e <;> simp [D.same] at h ⊢
    exact D.sames_eq _ _ h
theorem D.sames_eq : ∀ xs ys : List D, D.sames xs ys = true → xs = ys
  | [], ys, h => by cases ys <;> simp [D.sames] at h ⊢
  | x :: xs, ys, h => by
    cases ys with
    | nil => simp [D.sames] at h
    | cons y ys =>
      simp only [D.sames, Bool.and_eq_true] at h
      rw [D.same_eq x y h.1, D.sames_eq xs ys h.2]
theorem D.samek_eq : ∀ xs ys : List (D × D), D.samek xs ys = true → xs = ys
  | [], ys, h => by cases ys <;> simp [D.samek] at h ⊢
  | (k, v) :: r, ys, h => by
    cases ys with
    | nil => simp [D.samek] at h
    | cons y ys =>
      obtain ⟨k', v'⟩ := y
      simp only [D.samek, Bool.and_eq_true] at h
      rw [D.same_eq k k' h.1.1, D.same_eq v v' h.1.2, D.samek_eq r ys h.2]
end

def D.dep (d : D) : Nat := PySem.PyData.depth d.py

/-! ### cells -/
inductive Cell where
  | lst (xs : List D) | dic (kvs : List (D × D)) | ins (c : Nat) (fs : List (Str × D)) | fro (xs : List D)
  deriving Inhabited
abbrev Store := List Cell
abbrev Ev := List (Option D)

def sameF : List (Str × D) → List (Str × D) → Bool
  | [], [] => true
  | (k, v) :: r, (k', v') :: r' => decide (k = k') && D.same v v' && sameF r r'
  | _, _ => false
def okF (b : Nat) : List (Str × D) → Bool
  | [] => true
  | (_, v) :: r => D.okR b v && okF b r
def Cell.same : Cell → Cell → Bool
  | .lst xs, .lst ys => D.sames xs ys
  | .dic xs, .dic ys => D.samek xs ys
  | .ins c fs, .ins c' fs' => c == c' && sameF fs fs'
  | .fro xs, .fro ys => D.sames xs ys
  | _, _ => false
def Cell.okR (b : Nat) : Cell → Bool
  | .lst xs => D.okRs b xs
  | .dic kvs => D.okRk b kvs
  | .ins _ fs => okF b fs
  | .fro xs => D.okRs b xs
theorem sameF_refl : ∀ fs, sameF fs fs = true
  | [] => rfl
  | (k, v) :: r => by simp [sameF, D.same_refl, sameF_refl r]
theorem sameF_eq : ∀ fs gs, sameF fs gs = true → fs = gs
  | [], gs, h => by cases gs <;> simp [sameF] at h ⊢
  | (k, v) :: r, gs, h => by
    cases gs with
    | nil => simp [sameF] at h
    | cons g gs =>
      obtain ⟨k', v'⟩ := g
      simp only [sameF, Bool.and_eq_true, decide_eq_true_eq] at h
      rw [h.1.1, D.same_eq v v' h.1.2, sameF_eq r gs h.2]
theorem Cell.same_refl (c : Cell) : Cell.same c c = true := by
  cases c <;> simp [Cell.same, D.sames_refl, D.samek_refl, sameF_refl]
theorem Cell.same_eq (c e : Cell) (h : Cell.same c e = true) : c = e := by
  cases c <;> cases e <;> simp [Cell.same] at h ⊢
  · exact D.sames_eq _ _ h
  · exact D.samek_eq _ _ h
  · exact ⟨h.1, sameF_eq _ _ h.2⟩
  · exact D.sames_eq _ _ h

/-- what stands at a reference -/
def deref (S : Store) : D → D
  | .ref n => match S[n]? with
    | some (.lst xs) => .lst xs
    | some (.dic kvs) => .dic kvs
    | some (.fro xs) => .lst xs
    | _ => .ref n
  | d => d

/-! ### operations on data -/
def LIM : Nat := 16777216
inductive B2 where
  | add | sub | mul | fdiv | mod | pow | shl | shr | band | bor | eq | ne | lt | le | gt | ge | inn | notin
  deriving DecidableEq
inductive U1 where
  | neg | inv | not | isN | notN
  deriving DecidableEq

def eqD (x y : D) : Option Bool :=
  if x.isPy && y.isPy && (decide (x.dep ≤ 64) || decide (y.dep ≤ 64)) then some (PySem.PyData.eqv x.py y.py) else none
def strLt (a b : Str) : Bool := decide (a.cps.toList < b.cps.toList)
def notNon : D → Bool
  | .non => false
  | _ => true
def ltD (x y : D) : Option Bool :=
  if x.isPy && y.isPy && PySem.W.alike x.py y.py && (decide (x.dep ≤ 64) || decide (y.dep ≤ 64)) && notNon x then some (PySem.W.dataLt x.py y.py) else none
def toI : D → Option Int
  | .int i => some i
  | .bl b => some (if b then 1 else 0)
  | _ => none
/-- one of a row is equal -/
def memD (x : D) : List D → Option Bool
  | ys => if x.isPy && D.isPys ys && (decide (x.dep ≤ 63) || decide ((D.tup ys).dep ≤ 64)) then some (ys.any fun y => PySem.PyData.eqv y.py x.py) else none
def keyD : D → Option (Sum Int Str)
  | .int i => some (.inl i)
  | .str s => some (.inr s)
  | _ => none
/-- it is no row that nobody may write -/
def noFro (S : Store) : D → Bool
  | .ref n => (match S[n]? with
    | some (.fro _) => false
    | _ => true)
  | _ => true
/-- the value at a key -/
def lookD (k : Sum Int Str) : List (D × D) → Option D
  | [] => none
  | (k', v) :: r => if keyD k' = some k then some v else lookD k r
def putD (k : D) (v : D) (kvs : List (D × D)) : List (D × D) :=
  if (kvs.any fun p => decide (keyD p.1 = keyD k)) = true then kvs.map fun p => if keyD p.1 = keyD k then (p.1, v) else p else kvs ++ [(k, v)]

def rep (n : Nat) (xs : List D) : List D := (List.replicate n xs).flatten
def strIn (x y : Str) : Bool := !(PySem.Builtin.Str.occurrences y x 0 y.length 1).isEmpty

def bin : B2 → D → D → Option D
  | .add, .int i, .int j => some (.int (i + j))
  | .add, .str x, .str y => if x.length + y.length ≤ LIM then some (.str (x ++ y)) else none
  | .add, .tup xs, .tup ys => if xs.length + ys.length ≤ LIM then some (.tup (xs ++ ys)) else none
  | .add, .lst xs, .lst ys => if xs.length + ys.length ≤ LIM then some (.lst (xs ++ ys)) else none
  | .sub, .int i, .int j => some (.int (i - j))
  | .mul, .int i, .int j => if (decide (-(2 ^ 64) < i) && decide (i < 2 ^ 64)) || (decide (-(2 ^ 64) < j) && decide (j < 2 ^ 64)) then some (.int (i * j)) else none
  | .mul, .lst xs, .int k => if decide (-(2 ^ 63) ≤ k) && decide (k < 2 ^ 63) && decide (xs.length * k.toNat ≤ LIM) then some (.lst (rep k.toNat xs)) else none
  | .mul, .tup xs, .int k => if !xs.isEmpty && decide (0 ≤ k) && decide (k ≤ 1000) && decide (xs.length ≤ 1000) then some (.tup (rep k.toNat xs)) else none
  | .fdiv, .int i, .int j => if decide (j ≠ 0) && decide (j.natAbs < 1073741824) then some (.int (i.fdiv j)) else none
  | .mod, .int i, .int j => if decide (j ≠ 0) then some (.int (i.fmod j)) else none
  | .pow, .int i, .int j => if decide (0 ≤ j) && decide (j ≤ 1000000) && decide (i.natAbs < 2 ^ 64) then some (.int (i ^ j.toNat)) else none
  | .shl, .int i, .int j => if decide (0 ≤ j) && decide (j ≤ 1000000) && decide (i.natAbs < 2 ^ 64) then some (.int (i * 2 ^ j.toNat)) else none
  | .shr, .int i, .int j => if decide (0 ≤ j) then some (.int (i / 2 ^ j.toNat)) else none
  | .band, .int i, .int j => some (.int (PySem.Builtin.bitAnd i j))
  | .bor, .int i, .int j => some (.int (PySem.Builtin.bitOr i j))
  | .eq, x, y => (eqD x y).map .bl
  | .ne, x, y => (eqD x y).map fun b => .bl (!b)
  | .lt, .int i, .int j => some (.bl (decide (i < j)))
  | .lt, x, y => (ltD x y).map .bl
  | .gt, .int i, .int j => some (.bl (decide (j < i)))
  | .le, .int i, .int j => some (.bl (decide (i ≤ j)))
  | .ge, .int i, .int j => some (.bl (decide (j ≤ i)))
  | .inn, x, .tup ys => (memD x ys).map .bl
  | .inn, x, .lst ys => (memD x ys).map .bl
  | .inn, .str x, .str y => some (.bl (strIn x y))
  | .inn, x, .dic kvs => (keyD x).map fun k => .bl (lookD k kvs).isSome
  | .notin, x, .tup ys => (memD x ys).map fun b => .bl (!b)
  | .notin, x, .lst ys => (memD x ys).map fun b => .bl (!b)
  | .notin, .str x, .str y => some (.bl (!strIn x y))
  | .notin, x, .dic kvs => (keyD x).map fun k => .bl (!(lookD k kvs).isSome)
  | _, _, _ => none

def un : U1 → D → Option D
  | .neg, .int i => some (.int (-i))
  | .inv, .int i => some (.int (PySem.Builtin.bitNot i))
  | .not, .bl b => some (.bl (!b))
  | .isN, .non => some (.bl true)
  | .isN, _ => some (.bl false)
  | .notN, .non => some (.bl false)
  | .notN, _ => some (.bl true)
  | _, _ => none

def idx : D → D → Option D
  | .tup xs, .int i => L2.atI xs i
  | .lst xs, .int i => L2.atI xs i
  | .str s, .int i => (L2.atI s.cps.toList i).map fun c => .str ⟨#[c]⟩
  | .dic kvs, k => (keyD k).bind fun k => lookD k kvs
  | _, _ => none
def cut {α : Type} (xs : List α) (lo hi : Option Int) : List α := (xs.drop (HT.sIx xs.length 0 lo)).take (HT.sIx xs.length xs.length hi - HT.sIx xs.length 0 lo)
def slc : D → Option Int → Option Int → Option D
  | .tup xs, lo, hi => some (.tup (cut xs lo hi))
  | .lst xs, lo, hi => some (.lst (cut xs lo hi))
  | .inp xs, lo, hi => some (.lst (cut xs lo hi))
  | .str s, lo, hi => some (.str ⟨(cut s.cps.toList lo hi).toArray⟩)
  | _, _, _ => none

/-! ### built-in functions -/
inductive Prim where
  | len | int | abs | all | any | sum | max1 | max2 | sorted | tuple | list | str | listRange
  deriving DecidableEq
def boolsOf : List D → Option (List Bool)
  | [] => some []
  | .bl b :: r => (boolsOf r).map (b :: ·)
  | _ => none
def intsOf : List D → Option (List Int)
  | [] => some []
  | .int i :: r => (intsOf r).map (i :: ·)
  | _ => none
def maxI : List Int → Option Int
  | [] => none
  | x :: r => some (r.foldl (fun a b => if b > a then b else a) x)
def dle (a b : D) : Bool := !PySem.W.dataLt b.py a.py
def isStr : D → Bool | .str _ => true | _ => false
def isInt : D → Bool | .int _ => true | _ => false
def isTup : D → Bool | .tup _ => true | _ => false
def alikes (xs : List D) : Bool := xs.all fun x => xs.all fun y => PySem.W.alike x.py y.py
def sortD (xs : List D) : Option (List D) :=
  if D.isPys xs && decide ((D.lst xs).dep ≤ 64) && alikes xs && (xs.all isStr || xs.all isInt || xs.all isTup) then some (xs.mergeSort dle) else none
def rng (a b : Int) : List D := (List.range (b - a).toNat).map fun i => D.int (a + (i : Nat))
def okRng (a b : Int) : Bool := decide (-(2 ^ 62) ≤ a) && decide (a < 2 ^ 62) && decide (-(2 ^ 62) ≤ b) && decide (b < 2 ^ 62) && decide ((b - a).toNat ≤ LIM)
def seqOf : D → Option (List D)
  | .tup xs => some xs
  | .lst xs => some xs
  | _ => none
def prim : Prim → List D → Option D
  | .len, [.str s] => some (.int s.length)
  | .len, [.tup xs] => some (.int xs.length)
  | .len, [.lst xs] => some (.int xs.length)
  | .len, [.dic kvs] => some (.int kvs.length)
  | .int, [.int i] => some (.int i)
  | .int, [.bl b] => some (.int (if b then 1 else 0))
  | .abs, [.int i] => some (.int (if i < 0 then -i else i))
  | .all, [.lst xs] => (boolsOf xs).map fun bs => .bl (bs.all id)
  | .any, [.lst xs] => (boolsOf xs).map fun bs => .bl (bs.any id)
  | .sum, [.lst xs] => (intsOf xs).map fun is => .int is.sum
  | .max1, [.lst xs] => (intsOf xs).bind fun is => (maxI is).map .int
  | .max2, [.int i, .int j] => some (.int (if j > i then j else i))
  | .sorted, [.lst xs] => (sortD xs).map .lst
  | .tuple, [.tup xs] => some (.tup xs)
  | .tuple, [.lst xs] => some (.tup xs)
  | .list, [.tup xs] => some (.lst xs)
  | .list, [.lst xs] => some (.lst xs)
  | .str, [.int i] => if decide (0 ≤ i) && decide (i < 1000) then some (.str (toString i : String)) else none
  | .listRange, [.int a, .int b] => if okRng a b then some (.lst (rng a b)) else none
  | _, _ => none

/-! ### the language -/
inductive T where
  | name (i : Nat) | tup (is : List Nat)
/-- what is walked -/
inductive IK where
  | seq | rng1 | rng2 | enum | zip | items | vals
  deriving DecidableEq
/-- methods of built-in types -/
inductive PM where
  | append | extend | get1 | get2 | index | pop0 | pop1 | update | bitlen
  deriving DecidableEq
inductive E where
  | cst (d : D)
  | var (i : Nat)
  | star (e : E)
  | tup (es : List E)
  | lst (cell : Bool) (es : List E)
  | dic (cell : Bool) (ks : List E) (vs : List E)
  | b2 (op : B2) (a b : E)
  | chain (p q : B2) (a b c : E)
  | u1 (op : U1) (a : E)
  | and (a b : E) | or (a b : E)
  | ite (t a b : E)
  | idx (a i : E)
  | slc (a : E) (lo hi : Option E)
  | prim (p : Prim) (es : List E)
  | cget (kvs : List (D × D)) (k d : E)
  | call (f : Nat) (es : List E)
  | new (c : Nat) (es : List E)
  | meth (o : E) (m : Str) (es : List E)
  | pm (p : PM) (o : E) (es : List E)
  | fld (o : E) (f : Str)
  | comp (cell : Bool) (elt : E) (t : T) (k : IK) (its : List E) (conds : List E)
  | comp2 (cell : Bool) (elt : E) (t : T) (k : IK) (its : List E) (t2 : T) (k2 : IK) (its2 : List E)
  | dcomp (cell : Bool) (key val : E) (t : T) (k : IK) (its : List E) (conds : List E)
inductive Stm where
  | expr (e : E) | ret (e : E) | retN
  | asg (t : T) (e : E)
  | par (is : List Nat) (es : List E)
  | setI (o i e : E)
  | setF (o : E) (f : Str) (e : E)
  | aug (i : Nat) (op : B2) (e : E)
  | ife (c : E) (a b : List Stm)
  | for_ (t : T) (k : IK) (its : List E) (body : List Stm)
  | while_ (c : E) (body : List Stm)
  | brk | cont | pass | never

structure Cal where
  fn : Nat → List D → Store → Option (D × Store)
  meth : Nat → Str → Option Nat
  init : Nat → Option Nat
  W : Nat

def getV (σ : Ev) (i : Nat) : Option D := (σ[i]?).join
def bindL : List Nat → List D → Ev → Option Ev
  | [], [], σ => some σ
  | i :: is, d :: ds, σ => bindL is ds (σ.set i (some d))
  | _, _, _ => none
def bindT : T → D → Ev → Option Ev
  | .name i, d, σ => some (σ.set i (some d))
  | .tup is, .tup ds, σ => bindL is ds σ
  | _, _, _ => none

def T.slots : T → List Nat
  | .name i => [i]
  | .tup is => is
/-- slots forgotten -/
def clr (is : List Nat) (σ : Ev) : Ev := is.foldr (fun i σ => σ.set i none) σ

/-- what is walked, as a row, and what must stay so -/
def items : IK → Store → List D → Option (List D)
  | .seq, S, [d] => (match deref S d with
    | .tup xs => some xs
    | .lst xs => some xs
    | .str s => some (s.cps.toList.map fun c => D.str ⟨#[c]⟩)
    | _ => none)
  | .rng1, _, [.int b] => if okRng 0 b then some (rng 0 b) else none
  | .rng2, _, [.int a, .int b] => if okRng a b then some (rng a b) else none
  | .enum, S, [d] => (seqOf (deref S d)).map fun xs => (List.range xs.length).zipWith (fun i x => D.tup [.int (i : Nat), x]) xs
  | .zip, S, [d, e] => (match deref S d, deref S e with
    | .tup xs, .tup ys => some (List.zipWith (fun x y => D.tup [x, y]) xs ys)
    | .lst xs, .lst ys => some (List.zipWith (fun x y => D.tup [x, y]) xs ys)
    | _, _ => none)
  | .items, S, [d] => (match deref S d with
    | .dic kvs => some (kvs.map fun p => D.tup [p.1, p.2])
    | _ => none)
  | .vals, S, [d] => (match deref S d with
    | .dic kvs => some (kvs.map (·.2))
    | _ => none)
  | _, _, _ => none
def guard1 (S S' : Store) : D → Bool
  | .ref n => (match S[n]?, S'[n]? with
    | some c, some c' => Cell.same c c'
    | _, _ => false)
  | _ => true
def guard (S S' : Store) (ds : List D) : Bool := ds.all (guard1 S S')

def compL (g : Store → Bool) (f : D → Store → Option (List D × Store)) : List D → Store → Option (List D × Store)
  | [], S => some ([], S)
  | x :: xs, S => (f x S).bind fun r => if g r.2 then (compL g f xs r.2).bind fun q => some (r.1 ++ q.1, q.2) else none
/-- the pairs of a dict comprehension, one after another -/
def compD (g : Store → Bool) (f : D → Store → Option (Option (D × D) × Store)) : List D → List (D × D) → Store → Option (List (D × D) × Store)
  | [], acc, S => some (acc, S)
  | x :: xs, acc, S => (f x S).bind fun r => if g r.2 then compD g f xs (match r.1 with | some p => putD p.1 p.2 acc | none => acc) r.2 else none

/-- a new cell, or a plain row -/
def mk (cell : Bool) (xs : List D) (S : Store) : Option (D × Store) := if xs.length ≤ LIM then (if cell then some (.ref S.length, S ++ [.lst xs]) else some (.lst xs, S)) else none
def mkD (cell : Bool) (kvs : List (D × D)) (S : Store) : Option (D × Store) := if cell then some (.ref S.length, S ++ [.dic kvs]) else some (.dic kvs, S)

def lookF (f : Str) : List (Str × D) → Option D
  | [] => none
  | (k, v) :: r => if f = k then some v else lookF f r
def putF (f : Str) (v : D) : List (Str × D) → List (Str × D)
  | [] => [(f, v)]
  | (k, w) :: r => if k = f then (k, v) :: r else (k, w) :: putF f v r
def pmV : PM → Store → D → List D → Option (D × Store)
  | .append, S, .ref n, [d] => (match S[n]? with
    | some (.lst xs) => if xs.length < LIM then some (.non, S.set n (.lst (xs ++ [d]))) else none
    | _ => none)
  | .extend, S, .ref n, [d] => (match S[n]?, deref S d with
    | some (.lst xs), .lst ys => if noFro S d && decide (xs.length + ys.length ≤ LIM) then some (.non, S.set n (.lst (xs ++ ys))) else none
    | _, _ => none)
  | .get2, S, o, [k, d] => (match deref S o with
    | .dic kvs => (keyD k).map fun k => ((lookD k kvs).getD d, S)
    | _ => none)
  | .get1, S, o, [k] => (match deref S o with
    | .dic kvs => (keyD k).map fun k => ((lookD k kvs).getD .non, S)
    | _ => none)
  | .pop0, S, .ref n, [] => (match S[n]? with
    | some (.lst xs) => (xs[xs.length - 1]?).map fun d => (d, S.set n (.lst xs.dropLast))
    | _ => none)
  | .pop1, S, .ref n, [.int i] => (match S[n]? with
    | some (.lst xs) => if 0 ≤ i ∧ i < 2 ^ 63 then (xs[i.toNat]?).map fun d => (d, S.set n (.lst (xs.eraseIdx i.toNat))) else none
    | _ => none)
  | .index, S, o, [x] => (match deref S o with
    | .lst ys => if x.isPy && D.isPys ys && decide (x.dep ≤ 64) && decide ((D.lst ys).dep ≤ 64) then (ys.findIdx? fun y => PySem.PyData.eqv y.py x.py).map fun (n : Nat) => (D.int (n : Int), S) else none
    | _ => none)
  | _, _, _, _ => none

/-- what a method is asked of -/
def pmOk : PM → D → Bool
  | .get1, .dic _ => true
  | .get2, .dic _ => true
  | .append, .lst _ => true
  | .extend, .lst _ => true
  | .index, .lst _ => true
  | .pop0, .lst _ => true
  | .pop1, .lst _ => true
  | _, _ => false
def starOf : D → Option (List D) := seqOf

mutual
def ev (C : Cal) : E → Ev → Store → Option (D × Store)
  | .cst d, _, S => some (d, S)
  | .var i, σ, S => (getV σ i).map (·, S)
  | .star _, _, _ => none
  | .tup es, σ, S => (evs C es σ S).bind fun r => if r.1.length ≤ LIM then some (.tup r.1, r.2) else none
  | .lst cell es, σ, S => (evs C es σ S).bind fun r => mk cell r.1 r.2
  | .dic cell ks vs, σ, S => (match ks with
    | [] => mkD cell [] S
    | _ => none)
  | .b2 op a b, σ, S => (ev C a σ S).bind fun r => (ev C b σ r.2).bind fun q => (bin op (deref q.2 r.1) (deref q.2 q.1)).map (·, q.2)
  | .chain p q a b c, σ, S => (ev C a σ S).bind fun r => (ev C b σ r.2).bind fun s => (bin p (deref s.2 r.1) (deref s.2 s.1)).bind fun x => match x with
    | .bl true => (ev C c σ s.2).bind fun t => (bin q (deref t.2 s.1) (deref t.2 t.1)).map (·, t.2)
    | .bl false => some (.bl false, s.2)
    | _ => none
  | .u1 op a, σ, S => (ev C a σ S).bind fun r => (un op r.1).map (·, r.2)
  | .and a b, σ, S => (ev C a σ S).bind fun r => match r.1 with
    | .bl true => ev C b σ r.2
    | .bl false => some (.bl false, r.2)
    | _ => none
  | .or a b, σ, S => (ev C a σ S).bind fun r => match r.1 with
    | .bl true => some (.bl true, r.2)
    | .bl false => ev C b σ r.2
    | _ => none
  | .ite t a b, σ, S => (ev C t σ S).bind fun r => match r.1 with
    | .bl true => ev C a σ r.2
    | .bl false => ev C b σ r.2
    | _ => none
  | .idx a i, σ, S => (ev C a σ S).bind fun r => (ev C i σ r.2).bind fun q => (idx (deref q.2 r.1) q.1).map (·, q.2)
  | .slc a lo hi, σ, S => (ev C a σ S).bind fun r => (evo C lo σ r.2).bind fun l => (evo C hi σ l.2).bind fun h => (slc (deref h.2 r.1) l.1 h.1).map (·, h.2)
  | .prim p es, σ, S => (evs C es σ S).bind fun r => (prim p (r.1.map (deref r.2))).map (·, r.2)
  | .cget kvs k d, σ, S => (ev C k σ S).bind fun r => (ev C d σ r.2).bind fun q => match r.1 with
    | .str s => some ((lookD (.inr s) kvs).getD q.1, q.2)
    | _ => none
  | .call f es, σ, S => (evs C es σ S).bind fun r => C.fn f r.1 r.2
  | .new c es, σ, S => (evs C es σ S).bind fun r => (C.init c).bind fun f => (C.fn f (.ref r.2.length :: r.1) (r.2 ++ [.ins c []])).bind fun q => match q.1 with
    | .non => some (.ref r.2.length, q.2)
    | _ => none
  | .meth o m es, σ, S => (ev C o σ S).bind fun r => (match r.1 with
    | .ref n => (match r.2[n]? with
      | some (.ins c fs) => if (lookF m fs).isSome then none else (C.meth c m).bind fun f => (evs C es σ r.2).bind fun q => (match q.2[n]? with
        | some (.ins c' _) => if c' = c then C.fn f (.ref n :: q.1) q.2 else none
        | _ => none)
      | _ => none)
    | _ => none)
  | .pm p o es, σ, S => (ev C o σ S).bind fun r => if pmOk p (deref r.2 r.1) then (evs C es σ r.2).bind fun q => pmV p q.2 r.1 q.1 else none
  | .fld o f, σ, S => (ev C o σ S).bind fun r => (match r.1 with
    | .ref n => (match r.2[n]? with
      | some (.ins _ fs) => (lookF f fs).map (·, r.2)
      | _ => none)
    | _ => none)
  | .comp cell elt t k its conds, σ, S => (evs C its σ S).bind fun r => (items k r.2 r.1).bind fun xs =>
      (compL (fun S' => guard r.2 S' r.1) (fun x S1 => (bindT t x σ).bind fun σ' => (evc C conds σ' S1).bind fun b =>
        if b.1 then (ev C elt σ' b.2).bind fun y => some ([y.1], y.2) else some ([], b.2)) xs r.2).bind fun q => mk cell q.1 q.2
  | .comp2 cell elt t k its t2 k2 its2, σ, S => (evs C its σ S).bind fun r => (items k r.2 r.1).bind fun xs =>
      (compL (fun S' => guard r.2 S' r.1) (fun x S1 => (bindT t x (clr t2.slots σ)).bind fun σ' => (evs C its2 σ' S1).bind fun r2 => (items k2 r2.2 r2.1).bind fun xs2 =>
        compL (fun S' => guard r2.2 S' r2.1) (fun x2 S2 => (bindT t2 x2 σ').bind fun σ2 => (ev C elt σ2 S2).bind fun y => some ([y.1], y.2)) xs2 r2.2) xs r.2).bind fun q => mk cell q.1 q.2
  | .dcomp cell key val t k its conds, σ, S => (evs C its σ S).bind fun r => (items k r.2 r.1).bind fun xs =>
      (compD (fun S' => guard r.2 S' r.1) (fun x S1 => (bindT t x σ).bind fun σ' => (evc C conds σ' S1).bind fun b =>
        if b.1 then (ev C key σ' b.2).bind fun y => (ev C val σ' y.2).bind fun z => if (keyD y.1).isSome then some (some (y.1, z.1), z.2) else none else some (none, b.2)) xs [] r.2).bind fun q =>
          if q.1.length < LIM then mkD cell q.1 q.2 else none
def evs (C : Cal) : List E → Ev → Store → Option (List D × Store)
  | [], _, S => some ([], S)
  | .star e :: es, σ, S => (ev C e σ S).bind fun r => (seqOf (deref r.2 r.1)).bind fun xs => (evs C es σ r.2).bind fun q => some (xs ++ q.1, q.2)
  | e :: es, σ, S => (ev C e σ S).bind fun r => (evs C es σ r.2).bind fun q => some (r.1 :: q.1, q.2)
def evo (C : Cal) : Option E → Ev → Store → Option (Option Int × Store)
  | none, _, S => some (none, S)
  | some e, σ, S => (ev C e σ S).bind fun r => match r.1 with
    | .int i => some (some i, r.2)
    | _ => none
def evc (C : Cal) : List E → Ev → Store → Option (Bool × Store)
  | [], _, S => some (true, S)
  | e :: es, σ, S => (ev C e σ S).bind fun r => match r.1 with
    | .bl true => evc C es σ r.2
    | .bl false => some (false, r.2)
    | _ => none
end

/-! ### statements -/
inductive Flow where
  | nx | bk | ct | rt (d : D)
abbrev Res := Option (Flow × Ev × Store)

def forL (g : Store → Bool) (t : T) (body : Ev → Store → Res) : List D → Ev → Store → Res
  | [], σ, S => some (.nx, σ, S)
  | x :: xs, σ, S => (bindT t x σ).bind fun σ1 => (body σ1 S).bind fun r => match r.1 with
    | .nx => if g r.2.2 then forL g t body xs r.2.1 r.2.2 else none
    | .ct => if g r.2.2 then forL g t body xs r.2.1 r.2.2 else none
    | .bk => some (.nx, r.2)
    | .rt d => some (.rt d, r.2)
def whileL (c : Ev → Store → Option (D × Store)) (body : Ev → Store → Res) : Nat → Ev → Store → Res
  | 0, _, _ => none
  | n + 1, σ, S => (c σ S).bind fun r => match r.1 with
    | .bl false => some (.nx, σ, r.2)
    | .bl true => (body σ r.2).bind fun q => match q.1 with
      | .nx => whileL c body n q.2.1 q.2.2
      | .ct => whileL c body n q.2.1 q.2.2
      | .bk => some (.nx, q.2)
      | .rt d => some (.rt d, q.2)
    | _ => none
/-- x[i] = v -/
def setI (S : Store) : D → D → D → Option Store
  | .ref n, i, v => (match S[n]? with
    | some (.lst xs) => (match i with
      | .int k => (L2.ixN xs.length k).map fun j => S.set n (.lst (xs.set j v))
      | _ => none)
    | some (.dic kvs) => if (keyD i).isSome && decide (kvs.length < LIM) then some (S.set n (.dic (putD i v kvs))) else none
    | _ => none)
  | _, _, _ => none

mutual
def ex (C : Cal) : Stm → Ev → Store → Res
  | .expr e, σ, s => (ev C e σ s).bind fun r => some (.nx, σ, r.2)
  | .ret e, σ, s => (ev C e σ s).bind fun r => some (.rt r.1, σ, r.2)
  | .retN, σ, s => some (.rt .non, σ, s)
  | .asg t e, σ, s => (ev C e σ s).bind fun r => (bindT t r.1 σ).bind fun σ' => some (.nx, σ', r.2)
  | .par is es, σ, s => (evs C es σ s).bind fun r => (bindL is r.1 σ).bind fun σ' => some (.nx, σ', r.2)
  | .setI o i e, σ, s => (ev C e σ s).bind fun r => (ev C o σ r.2).bind fun q => (ev C i σ q.2).bind fun t => (setI t.2 q.1 t.1 r.1).bind fun s' => some (.nx, σ, s')
  | .setF o f e, σ, s => (ev C e σ s).bind fun r => (ev C o σ r.2).bind fun q => (match q.1 with
    | .ref n => (match q.2[n]? with
      | some (.ins c fs) => if fs.length < 1000 then some (.nx, σ, q.2.set n (.ins c (putF f r.1 fs))) else none
      | _ => none)
    | _ => none)
  | .aug i op e, σ, s => (getV σ i).bind fun x => (ev C e σ s).bind fun r => (match x, r.1 with
    | .int _, .int _ => (bin op x r.1).bind fun y => some (.nx, σ.set i (some y), r.2)
    | _, _ => none)
  | .ife c a b, σ, s => (ev C c σ s).bind fun r => match r.1 with
    | .bl true => exs C a σ r.2
    | .bl false => exs C b σ r.2
    | _ => none
  | .for_ t k its body, σ, s => (evs C its σ s).bind fun r => (items k r.2 r.1).bind fun xs => forL (fun s' => guard r.2 s' r.1) t (fun σ s => exs C body σ s) xs σ r.2
  | .while_ c body, σ, s => whileL (fun σ s => ev C c σ s) (fun σ s => exs C body σ s) C.W σ s
  | .brk, σ, s => some (.bk, σ, s)
  | .cont, σ, s => some (.ct, σ, s)
  | .pass, σ, s => some (.nx, σ, s)
  | .never, _, _ => none
def exs (C : Cal) : List Stm → Ev → Store → Res
  | [], σ, s => some (.nx, σ, s)
  | a :: r, σ, s => (ex C a σ s).bind fun q => match q.1 with
    | .nx => exs C r q.2.1 q.2.2
    | _ => some q
end

/-! ### functions -/
structure FD where
  npar : Nat
  nloc : Nat
  body : List Stm
structure Prog where
  funs : List FD
  meths : List (List (Str × Nat))
  W : Nat

/-- a value that leaves a frame whose cells stand from b on -/
def unref (b : Nat) (S : Store) : D → D
  | .ref n => if n < b then .ref n else if noFro S (.ref n) then deref S (.ref n) else .ref n
  | d => d
def leave (b : Nat) (S : Store) (d : D) : Option D := if (unref b S d).okR b then some (unref b S d) else none
/-- the older cells are the same, or name no new one -/
def keepOk (b : Nat) : Store → Store → Bool
  | [], _ => true
  | c :: S, c' :: S' => (Cell.same c c' || Cell.okR b c') && keepOk b S S'
  | _ :: _, [] => false
def lookM (m : Str) : List (Str × Nat) → Option Nat
  | [] => none
  | (k, n) :: r => if m = k then some n else lookM m r
def cal (P : Prog) (fn : Nat → List D → Store → Option (D × Store)) : Cal :=
  ⟨fn, fun c m => (P.meths[c]?).bind (lookM m), fun c => (P.meths[c]?).bind (lookM "__init__"), P.W⟩
def leaveF (b : Store) (r : Flow × Ev × Store) : Option (D × Store) :=
  (match r.1 with
    | .rt d => some d
    | .nx => some .non
    | _ => none).bind fun d => (leave b.length r.2.2 d).bind fun d' => if keepOk b.length b r.2.2 then some (d', r.2.2.take b.length) else none
def run (P : Prog) : Nat → Nat → List D → Store → Option (D × Store)
  | 0, _, _, _ => none
  | n + 1, f, args, S => (P.funs[f]?).bind fun fd => if args.length = fd.npar then
      (exs (cal P (run P n)) fd.body (args.map some ++ List.replicate fd.nloc none) S).bind (leaveF S) else none
end Fw
end
section
set_option Elab.async false
set_option linter.all false
set_option autoImplicit false
set_option maxRecDepth 10000
set_option maxHeartbeats 1000000
namespace Fw
open PySem PySem.Spec PyProof.Rows L2

/-- what is fixed: the written part, the classes' addresses -/
structure Cn where
  K : PySem.W.Frag
  ca : Nat → Addr
  nc : Nat
  /-- lists and dicts that are being made: no value speaks of them -/
  hid : List Addr
/-- no cell, and none that is being made -/
def Fre (G : Cn) (ι : List Addr) (a : Addr) : Prop := a ∉ ι ∧ a ∉ G.hid

/-- a tuple of the written part -/
def KTup (K : PySem.W.Frag) (a : Addr) (xs : List V) : Prop :=
  ∃ (o : Obj) (its : Array Value) (n : Nat), K.lookup a = some o ∧ o.cls = .type "tuple" ∧ o.data = .seq its n ∧ its.size ≤ sizeLine ∧ Vals xs its.toList
def StrG (s : Str) : Prop := PyData.strOk s = true ∧ s.length ≤ sizeLine
def TupAt (G : Cn) (ι : List Addr) (H : Hp) (a : Addr) (xs : List V) : Prop := (Rd H a (.tup xs) ∧ Fre G ι a) ∨ KTup G.K a xs

/-- what a law is given -/
def InpAt (G : Cn) (ι : List Addr) (H : Hp) (a : Addr) (xs : List V) : Prop := (Rd H a (.lst xs) ∧ Fre G ι a) ∨ ∃ (o : Obj) (its : Array Value) (n : Nat), G.K.lookup a = some o ∧ o.cls = .type "list" ∧ o.dict = none ∧ o.data = .seq its n ∧ its.size ≤ sizeLine ∧ Vals xs its.toList
mutual
inductive Rep (G : Cn) (ι : List Addr) (H : Hp) : D → V → Prop
  | non : Rep G ι H .non .non
  | bl (b : Bool) : Rep G ι H (.bl b) (.bl b)
  | int (i : Int) : Rep G ι H (.int i) (.int i)
  | str (s : Str) (h : StrG s) : Rep G ι H (.str s) (.str s)
  | tup {a : Addr} {xs : List V} {ds : List D} (t : TupAt G ι H a xs) (z : xs.length ≤ sizeLine) (r : Reps G ι H ds xs) : Rep G ι H (.tup ds) (.ref a)
  | lst {a : Addr} {xs : List V} {ds : List D} (t : H a = some (.lst xs)) (n : Fre G ι a) (z : xs.length ≤ sizeLine) (r : Reps G ι H ds xs) : Rep G ι H (.lst ds) (.ref a)
  | dic {a : Addr} {kvs : List (Key × V)} {ds : List (D × D)} (t : H a = some (.dK kvs)) (n : Fre G ι a) (z : kvs.length ≤ sizeLine) (r : RepK G ι H ds kvs) : Rep G ι H (.dic ds) (.ref a)
  | ref {n : Nat} {a : Addr} (h : ι[n]? = some a) : Rep G ι H (.ref n) (.ref a)
  | inp {a : Addr} {xs : List V} {ds : List D} (t : InpAt G ι H a xs) (z : xs.length ≤ sizeLine) (r : Reps G ι H ds xs) : Rep G ι H (.inp ds) (.ref a)
inductive Reps (G : Cn) (ι : List Addr) (H : Hp) : List D → List V → Prop
  | nil : Reps G ι H [] []
  | cons {d : D} {v : V} {ds : List D} {vs : List V} (h : Rep G ι H d v) (t : Reps G ι H ds vs) : Reps G ι H (d :: ds) (v :: vs)
inductive RepK (G : Cn) (ι : List Addr) (H : Hp) : List (D × D) → List (Key × V) → Prop
  | nil : RepK G ι H [] []
  | cons {k d : D} {q : Key} {v : V} {ds : List (D × D)} {vs : List (Key × V)} (e : keyD k = some q) (hk : Rep G ι H k (kV q)) (h : Rep G ι H d v) (t : RepK G ι H ds vs) : RepK G ι H ((k, d) :: ds) ((q, v) :: vs)
end
inductive RepF (G : Cn) (ι : List Addr) (H : Hp) : List (Str × D) → List (Str × V) → Prop
  | nil : RepF G ι H [] []
  | cons {f : Str} {d : D} {v : V} {ds : List (Str × D)} {vs : List (Str × V)} (h : Rep G ι H d v) (t : RepF G ι H ds vs) : RepF G ι H ((f, d) :: ds) ((f, v) :: vs)

def CellR (G : Cn) (ι : List Addr) (H : Hp) : Cell → Addr → Prop
  | .lst xs, a => ∃ vs, H a = some (.lst vs) ∧ vs.length ≤ sizeLine ∧ Reps G ι H xs vs
  | .dic kvs, a => ∃ vs, H a = some (.dK vs) ∧ vs.length ≤ sizeLine ∧ RepK G ι H kvs vs
  | .fro xs, a => ∃ vs, Rd H a (.lst vs) ∧ vs.length ≤ sizeLine ∧ Reps G ι H xs vs
  | .ins c fs, a => c < G.nc ∧ ∃ dx vs, H a = some (.ins (G.ca c) dx vs) ∧ vs.length ≤ 1000 ∧ RepF G ι H fs vs
structure SR (G : Cn) (ι : List Addr) (S : Store) (H : Hp) : Prop where
  len : ι.length = S.length
  nd : ι.Nodup
  hid : ∀ a ∈ G.hid, a ∉ ι ∧ ∃ o, H a = some o
  cell : ∀ (n : Nat) (c : Cell), S[n]? = some c → ∃ a, ι[n]? = some a ∧ CellR G ι H c a
structure Ext (ι : List Addr) (H : Hp) (ι' : List Addr) (H' : Hp) : Prop where
  pre : ∃ t, ι' = ι ++ t ∧ ∀ a ∈ t, H a = none
  keep : ∀ a o, a ∉ ι → H a = some o → H' a = some o
  dom : ∀ a, H' a = none → H a = none
/-- slots -/
structure EnvR (G : Cn) (ι : List Addr) (H : Hp) (e : Ev) (σ : L2.St) : Prop where
  len : e.length = σ.length
  at_ : ∀ (i : Nat) (d : D), e[i]? = some (some d) → ∃ v, σ[i]? = some (some v) ∧ Rep G ι H d v

section
variable {G : Cn} {ι ι' ι2 : List Addr} {H H' H2 : Hp} {S S' : Store}
theorem Ext.refl : Ext ι H ι H := ⟨⟨[], by simp, fun _ h => by simp at h⟩, fun _ _ _ h => h, fun _ h => h⟩
theorem Ext.sub (x : Ext ι H ι' H') {a : Addr} (h : a ∈ ι) : a ∈ ι' := by
  obtain ⟨t, e, _⟩ := x.pre
  rw [e]; exact List.mem_append_left _ h
theorem Ext.out (x : Ext ι H ι' H') {a : Addr} {o : HO} (h : a ∉ ι) (e : H a = some o) : a ∉ ι' := by
  obtain ⟨t, et, hn⟩ := x.pre
  rw [et]
  intro m
  rcases List.mem_append.mp m with m | m
  · exact h m
  · rw [hn a m] at e; cases e
theorem Ext.get (x : Ext ι H ι' H') {n : Nat} {a : Addr} (h : ι[n]? = some a) : ι'[n]? = some a := by
  obtain ⟨t, et, _⟩ := x.pre
  rw [et, List.getElem?_append_left (List.getElem?_eq_some_iff.mp h).1]; exact h
theorem Ext.trans (x : Ext ι H ι' H') (y : Ext ι' H' ι2 H2) : Ext ι H ι2 H2 := by
  obtain ⟨t, et, hn⟩ := x.pre
  obtain ⟨u, eu, hm⟩ := y.pre
  refine ⟨⟨t ++ u, by rw [eu, et, List.append_assoc], fun a m => ?_⟩, fun a o h e => y.keep a o (x.out h e) (x.keep a o h e), fun a e => x.dom a (y.dom a e)⟩
  rcases List.mem_append.mp m with m | m
  · exact hn a m
  · exact x.dom a (hm a m)
theorem Ext.outF (x : Ext ι H ι' H') {a : Addr} {o : HO} (h : Fre G ι a) (e : H a = some o) : Fre G ι' a := ⟨x.out h.1 e, h.2⟩
theorem Ext.rd (x : Ext ι H ι' H') {a : Addr} {u : HO} (h : Fre G ι a) (r : Rd H a u) : Rd H' a u ∧ Fre G ι' a := by
  rcases r with r | ⟨o, r⟩
  · exact ⟨.inl (x.keep a _ h.1 r), x.outF h r⟩
  · exact ⟨.inr ⟨o, x.keep a _ h.1 r⟩, x.outF h r⟩
theorem TupAt.ext (x : Ext ι H ι' H') {a : Addr} {xs : List V} (t : TupAt G ι H a xs) : TupAt G ι' H' a xs := by
  rcases t with ⟨r, n⟩ | k
  · exact .inl (x.rd n r)
  · exact .inr k
theorem InpAt.ext (x : Ext ι H ι' H') {a : Addr} {xs : List V} (t : InpAt G ι H a xs) : InpAt G ι' H' a xs := by
  rcases t with ⟨r, n⟩ | k
  · exact .inl (x.rd n r)
  · exact .inr k
theorem InpAt.sq {a : Addr} {xs : List V} (t : InpAt G ι H a xs) : SqL G.K H a xs := by
  rcases t with ⟨r, n⟩ | k
  · exact .inl r
  · exact .inr k
theorem TupAt.sq {a : Addr} {xs : List V} (t : TupAt G ι H a xs) : SqT G.K H a xs := by
  rcases t with ⟨r, n⟩ | k
  · exact .inl r
  · exact .inr k
mutual
theorem Rep.ext (x : Ext ι H ι' H') {d : D} {v : V} : Rep G ι H d v → Rep G ι' H' d v
  | .non => .non
  | .bl b => .bl b
  | .int i => .int i
  | .str s h => .str s h
  | .tup t z r => .tup (t.ext x) z (Reps.ext x r)
  | .lst t n z r => .lst (x.keep _ _ n.1 t) (x.outF n t) z (Reps.ext x r)
  | .dic t n z r => .dic (x.keep _ _ n.1 t) (x.outF n t) z (RepK.ext x r)
  | .ref h => .ref (x.get h)
  | .inp t z r => .inp (t.ext x) z (Reps.ext x r)
theorem Reps.ext (x : Ext ι H ι' H') {d : List D} {v : List V} : Reps G ι H d v → Reps G ι' H' d v
  | .nil => .nil
  | .cons h t => .cons (Rep.ext x h) (Reps.ext x t)
theorem RepK.ext (x : Ext ι H ι' H') {d : List (D × D)} {v : List (Key × V)} : RepK G ι H d v → RepK G ι' H' d v
  | .nil => .nil
  | .cons e hk h t => .cons e (Rep.ext x hk) (Rep.ext x h) (RepK.ext x t)
end
theorem RepF.ext (x : Ext ι H ι' H') {d : List (Str × D)} {v : List (Str × V)} : RepF G ι H d v → RepF G ι' H' d v
  | .nil => .nil
  | .cons h t => .cons (h.ext x) (RepF.ext x t)
theorem EnvR.ext (x : Ext ι H ι' H') {e : Ev} {σ : L2.St} (r : EnvR G ι H e σ) : EnvR G ι' H' e σ :=
  ⟨r.len, fun i d h => let ⟨v, h1, h2⟩ := r.at_ i d h; ⟨v, h1, h2.ext x⟩⟩
theorem CellR.ext (x : Ext ι H ι' H') {c : Cell} {a : Addr} (r : CellR G ι H c a) (e : H' a = H a) : CellR G ι' H' c a := by
  cases c with
  | lst xs => obtain ⟨vs, h, z, q⟩ := r; exact ⟨vs, by rw [e, h], z, q.ext x⟩
  | dic kvs => obtain ⟨vs, h, z, q⟩ := r; exact ⟨vs, by rw [e, h], z, q.ext x⟩
  | fro xs => obtain ⟨vs, h, z, q⟩ := r; exact ⟨vs, by unfold Rd; rw [e]; exact h, z, q.ext x⟩
  | ins c fs => obtain ⟨hc, dx, vs, h, z, q⟩ := r; exact ⟨hc, dx, vs, by rw [e, h], z, q.ext x⟩
theorem CellR.some {c : Cell} {a : Addr} (r : CellR G ι H c a) : ∃ o, H a = some o := by
  cases c with
  | lst xs => obtain ⟨vs, h, _⟩ := r; exact ⟨_, h⟩
  | dic kvs => obtain ⟨vs, h, _⟩ := r; exact ⟨_, h⟩
  | fro xs =>
    obtain ⟨vs, h, _⟩ := r
    rcases h with h | ⟨o, h⟩
    · exact ⟨_, h⟩
    · exact ⟨_, h⟩
  | ins c fs => obtain ⟨hc, dx, vs, h, _⟩ := r; exact ⟨_, h⟩
theorem SR.mem (sr : SR G ι S H) {a : Addr} (h : a ∈ ι) : ∃ o, H a = some o := by
  obtain ⟨n, hn, e⟩ := List.getElem_of_mem h
  have hS : n < S.length := by rw [← sr.len]; exact hn
  obtain ⟨b, hb, c⟩ := sr.cell n S[n] (List.getElem?_eq_getElem hS)
  rw [List.getElem?_eq_getElem hn, e] at hb
  cases hb
  exact c.some
theorem SR.fresh (sr : SR G ι S H) {p : Addr} (h : H p = none) : p ∉ ι := fun m => by
  obtain ⟨o, e⟩ := sr.mem m
  rw [e] at h; cases h
theorem SR.fre (sr : SR G ι S H) {p : Addr} (h : H p = none) : Fre G ι p := ⟨sr.fresh h, fun m => by
  obtain ⟨_, o, e⟩ := sr.hid p m
  rw [e] at h; cases h⟩
/-- the heap grows, the cells stay -/
theorem SR.ext (sr : SR G ι S H) (x : Ext ι H ι H') (h : ∀ a ∈ ι, H' a = H a) : SR G ι S H' :=
  ⟨sr.len, sr.nd, fun a m => ⟨(sr.hid a m).1, let ⟨o, e⟩ := (sr.hid a m).2; ⟨o, x.keep a o (sr.hid a m).1 e⟩⟩, fun n c e => by
    obtain ⟨a, ea, r⟩ := sr.cell n c e
    exact ⟨a, ea, r.ext x (h a (List.mem_of_getElem? ea))⟩⟩
/-- something new that is no cell -/
theorem new_ext (sr : SR G ι S H) {p : Addr} (h : H p = none) (o : HO) : Ext ι H ι (upd H p o) :=
  ⟨⟨[], by simp, fun _ h => by simp at h⟩, fun a u _ e => by rw [upd_ne (ne_of_none e h)]; exact e, fun a e => by
    by_cases z : a = p
    · rw [z]; exact h
    · rw [upd_ne z] at e; exact e⟩
theorem new_sr (sr : SR G ι S H) {p : Addr} (h : H p = none) (o : HO) : SR G ι S (upd H p o) :=
  sr.ext (new_ext sr h o) fun a m => upd_ne fun z => sr.fresh h (z ▸ m)
/-- something new that is a cell -/
theorem cell_ext (sr : SR G ι S H) {p : Addr} (h : H p = none) (o : HO) : Ext ι H (ι ++ [p]) (upd H p o) :=
  ⟨⟨[p], rfl, fun a m => by rw [List.mem_singleton.mp m]; exact h⟩, (new_ext sr h o).keep, (new_ext sr h o).dom⟩
theorem cell_sr (sr : SR G ι S H) {p : Addr} {o : HO} {c : Cell} (h : H p = none) (hc : CellR G (ι ++ [p]) (upd H p o) c p) : SR G (ι ++ [p]) (S ++ [c]) (upd H p o) := by
  have x := cell_ext sr h o
  refine ⟨by simp [sr.len], ?_, fun a m => ?_, fun n c' e => ?_⟩
  rotate_left
  · obtain ⟨h1, u, e⟩ := sr.hid a m
    have z : a ≠ p := fun z => by rw [z, h] at e; cases e
    exact ⟨fun w => by
      rcases List.mem_append.mp w with w | w
      · exact h1 w
      · exact z (List.mem_singleton.mp w), u, by rw [upd_ne z]; exact e⟩
  rotate_left
  · rw [List.nodup_append]
    refine ⟨sr.nd, by simp, fun a ha b hb => ?_⟩
    rw [List.mem_singleton.mp hb]
    exact fun z => sr.fresh h (z ▸ ha)
  · by_cases hn : n < S.length
    · rw [List.getElem?_append_left hn] at e
      obtain ⟨a, ea, r⟩ := sr.cell n c' e
      refine ⟨a, x.get ea, r.ext x (upd_ne fun z => sr.fresh h (z ▸ List.mem_of_getElem? ea))⟩
    · have hl : n < (S ++ [c]).length := (List.getElem?_eq_some_iff.mp e).1
      simp only [List.length_append, List.length_singleton] at hl
      have en : n = S.length := by omega
      subst en
      rw [List.getElem?_append_right (Nat.le_refl _)] at e
      simp at e
      subst e
      refine ⟨p, ?_, hc⟩
      rw [← sr.len, List.getElem?_append_right (Nat.le_refl _)]
      simp
/-- a cell is changed -/
theorem set_ext (sr : SR G ι S H) {n : Nat} {a : Addr} (h : ι[n]? = some a) (o : HO) : Ext ι H ι (upd H a o) :=
  ⟨⟨[], by simp, fun _ h => by simp at h⟩, fun b u hb e => by
    have z : b ≠ a := fun z => hb (by rw [z]; exact List.mem_of_getElem? h)
    rw [upd_ne z]; exact e, fun b e => by
    by_cases z : b = a
    · rw [z, upd_same] at e; cases e
    · rw [upd_ne z] at e; exact e⟩
theorem set_sr (sr : SR G ι S H) {n : Nat} {a : Addr} {o : HO} {c : Cell} (h : ι[n]? = some a) (hc : CellR G ι (upd H a o) c a) : SR G ι (S.set n c) (upd H a o) := by
  have x := set_ext sr h o
  refine ⟨by simp [sr.len], sr.nd, fun b m => ?_, fun m c' e => ?_⟩
  · obtain ⟨h1, u, e⟩ := sr.hid b m
    have z : b ≠ a := fun z => h1 (by rw [z]; exact List.mem_of_getElem? h)
    exact ⟨h1, u, by rw [upd_ne z]; exact e⟩
  by_cases hm : n = m
  · subst hm
    have hl : n < S.length := by
      have := (List.getElem?_eq_some_iff.mp e).1
      simpa using this
    rw [List.getElem?_set_self hl] at e
    cases e
    exact ⟨a, h, hc⟩
  · rw [List.getElem?_set_ne hm] at e
    obtain ⟨b, eb, r⟩ := sr.cell m c' e
    refine ⟨b, eb, r.ext x (upd_ne fun z => hm ?_)⟩
    subst z
    obtain ⟨h1, e1⟩ := List.getElem?_eq_some_iff.mp h
    obtain ⟨h2, e2⟩ := List.getElem?_eq_some_iff.mp eb
    exact (List.getElem_inj sr.nd).mp (e1.trans e2.symm)

theorem Reps.length {ds : List D} {vs : List V} (r : Reps G ι H ds vs) : ds.length = vs.length := by
  induction ds generalizing vs with
  | nil => cases r; rfl
  | cons d ds ih => cases r with | cons h t => simp [ih t]
theorem Reps.get {ds : List D} {vs : List V} (r : Reps G ι H ds vs) {i : Nat} {d : D} (e : ds[i]? = some d) : ∃ v, vs[i]? = some v ∧ Rep G ι H d v := by
  induction ds generalizing vs i with
  | nil => simp at e
  | cons x ds ih =>
    cases r with
    | cons h t =>
      cases i with
      | zero => simp at e; subst e; exact ⟨_, rfl, h⟩
      | succ i => simpa using ih t (by simpa using e)
theorem Reps.get' {ds : List D} {vs : List V} (r : Reps G ι H ds vs) {i : Nat} {v : V} (e : vs[i]? = some v) : ∃ d, ds[i]? = some d ∧ Rep G ι H d v := by
  induction ds generalizing vs i with
  | nil => cases r; simp at e
  | cons x ds ih =>
    cases r with
    | cons h t =>
      cases i with
      | zero => simp at e; subst e; exact ⟨_, rfl, h⟩
      | succ i => simpa using ih t (by simpa using e)
theorem Reps.append {ds es : List D} {vs ws : List V} (r : Reps G ι H ds vs) (q : Reps G ι H es ws) : Reps G ι H (ds ++ es) (vs ++ ws) := by
  induction ds generalizing vs with
  | nil => cases r; exact q
  | cons x ds ih => cases r with | cons h t => exact .cons h (ih t)
theorem Reps.take {ds : List D} {vs : List V} (r : Reps G ι H ds vs) (n : Nat) : Reps G ι H (ds.take n) (vs.take n) := by
  induction ds generalizing vs n with
  | nil => cases r; simp; exact .nil
  | cons x ds ih =>
    cases r with
    | cons h t =>
      cases n with
      | zero => simp; exact .nil
      | succ n => simpa using Reps.cons h (ih t n)
theorem Reps.drop {ds : List D} {vs : List V} (r : Reps G ι H ds vs) (n : Nat) : Reps G ι H (ds.drop n) (vs.drop n) := by
  induction ds generalizing vs n with
  | nil => cases r; simp; exact .nil
  | cons x ds ih =>
    cases r with
    | cons h t =>
      cases n with
      | zero => simpa using Reps.cons h t
      | succ n => simpa using ih t n
theorem Reps.set {ds : List D} {vs : List V} (r : Reps G ι H ds vs) (n : Nat) {d : D} {v : V} (q : Rep G ι H d v) : Reps G ι H (ds.set n d) (vs.set n v) := by
  induction ds generalizing vs n with
  | nil => cases r; simp; exact .nil
  | cons x ds ih =>
    cases r with
    | cons h t =>
      cases n with
      | zero => simpa using Reps.cons q t
      | succ n => simpa using Reps.cons h (ih t n)
theorem Reps.eraseIdx {ds : List D} {vs : List V} (r : Reps G ι H ds vs) (n : Nat) : Reps G ι H (ds.eraseIdx n) (vs.eraseIdx n) := by
  induction ds generalizing vs n with
  | nil => cases r; simp; exact .nil
  | cons x ds ih =>
    cases r with
    | cons h t =>
      cases n with
      | zero => simpa using t
      | succ n => simpa using Reps.cons h (ih t n)
theorem Reps.dropLast {ds : List D} {vs : List V} (r : Reps G ι H ds vs) : Reps G ι H ds.dropLast vs.dropLast := by
  rw [List.dropLast_eq_take, List.dropLast_eq_take, r.length]
  exact r.take _
theorem Reps.of_get {ds : List D} {vs : List V} (hl : ds.length = vs.length) (h : ∀ (i : Nat) d v, ds[i]? = some d → vs[i]? = some v → Rep G ι H d v) : Reps G ι H ds vs := by
  induction ds generalizing vs with
  | nil => cases vs with | nil => exact .nil | cons _ _ => simp at hl
  | cons x ds ih =>
    cases vs with
    | nil => simp at hl
    | cons v vs => exact .cons (h 0 x v rfl rfl) (ih (by simpa using hl) fun i d w h1 h2 => h (i + 1) d w (by simpa using h1) (by simpa using h2))
theorem Reps.rep {ds : List D} {vs : List V} (r : Reps G ι H ds vs) (n : Nat) : Reps G ι H (Fw.rep n ds) (List.replicate n vs).flatten := by
  unfold Fw.rep
  induction n with
  | zero => exact .nil
  | succ n ih => rw [List.replicate_succ, List.replicate_succ, List.flatten_cons, List.flatten_cons]; exact r.append ih

theorem RepK.length {ds : List (D × D)} {vs : List (Key × V)} (r : RepK G ι H ds vs) : ds.length = vs.length := by
  induction ds generalizing vs with
  | nil => cases r; rfl
  | cons d ds ih => cases r with | cons e hk h t => simp [ih t]
theorem RepK.look {ds : List (D × D)} {vs : List (Key × V)} (r : RepK G ι H ds vs) (k : Key) : match lookD k ds with | some d => ∃ v, valV vs k = some v ∧ Rep G ι H d v | none => valV vs k = none := by
  induction ds generalizing vs with
  | nil => cases r; simp [lookD, valV]
  | cons d ds ih =>
    cases r with
    | @cons k' d q v ds vs e hk h t =>
      unfold lookD
      by_cases z : keyD k' = some k
      · rw [if_pos z]
        have e' : q = k := by rw [e] at z; exact Option.some.inj z
        exact ⟨v, by rw [valV_pos e'], h⟩
      · rw [if_neg z]
        have ne : ¬ q = k := fun w => z (by rw [e, w])
        have := ih t
        cases hl : lookD k ds with
        | none => rw [hl] at this; simp only; rw [valV_neg ne]; exact this
        | some d' =>
          rw [hl] at this
          obtain ⟨w, h1, h2⟩ := this
          exact ⟨w, by rw [valV_neg ne]; exact h1, h2⟩
end
/-! ### what stands at a value -/
section
variable {G : Cn} {ι : List Addr} {H : Hp} {S : Store}
theorem view_lst (sr : SR G ι S H) {d : D} {v : V} {xs : List D} (r : Rep G ι H d v) (e : deref S d = .lst xs) : ∃ a vs, v = .ref a ∧ Rd H a (.lst vs) ∧ vs.length ≤ sizeLine ∧ Reps G ι H xs vs := by
  cases r with
  | lst t n z r => simp [deref] at e; subst e; exact ⟨_, _, rfl, .inl t, z, r⟩
  | @ref n a h =>
    simp only [deref] at e
    split at e
    · rename_i ys hy
      cases e
      obtain ⟨b, hb, vs, q, z, r⟩ := sr.cell n _ hy
      rw [h] at hb; cases hb
      exact ⟨a, vs, rfl, .inl q, z, r⟩
    · cases e
    · rename_i ys hy
      cases e
      obtain ⟨b, hb, vs, q, z, r⟩ := sr.cell n _ hy
      rw [h] at hb; cases hb
      exact ⟨a, vs, rfl, q, z, r⟩
    · cases e
  | _ => simp [deref] at e
/-- the list itself -/
theorem view_lstM (sr : SR G ι S H) {d : D} {v : V} {xs : List D} (r : Rep G ι H d v) (e : deref S d = .lst xs) (hf : noFro S d = true) : ∃ a vs, v = .ref a ∧ H a = some (.lst vs) ∧ vs.length ≤ sizeLine ∧ Reps G ι H xs vs := by
  cases r with
  | lst t n z r => simp [deref] at e; subst e; exact ⟨_, _, rfl, t, z, r⟩
  | @ref n a h =>
    simp only [deref] at e
    split at e
    · rename_i ys hy
      cases e
      obtain ⟨b, hb, vs, q, z, r⟩ := sr.cell n _ hy
      rw [h] at hb; cases hb
      exact ⟨a, vs, rfl, q, z, r⟩
    · cases e
    · rename_i ys hy
      simp [noFro, hy] at hf
    · cases e
  | _ => simp [deref] at e
theorem view_inp {d : D} {v : V} {xs : List D} (r : Rep G ι H d v) (e : deref S d = .inp xs) : ∃ a vs, v = .ref a ∧ InpAt G ι H a vs ∧ vs.length ≤ sizeLine ∧ Reps G ι H xs vs := by
  cases r with
  | inp t z r => simp [deref] at e; subst e; exact ⟨_, _, rfl, t, z, r⟩
  | @ref n a h =>
    simp only [deref] at e
    split at e <;> cases e
  | _ => simp [deref] at e
theorem view_tup (sr : SR G ι S H) {d : D} {v : V} {xs : List D} (r : Rep G ι H d v) (e : deref S d = .tup xs) : ∃ a vs, v = .ref a ∧ TupAt G ι H a vs ∧ vs.length ≤ sizeLine ∧ Reps G ι H xs vs := by
  cases r with
  | tup t z r => simp [deref] at e; subst e; exact ⟨_, _, rfl, t, z, r⟩
  | @ref n a h =>
    simp only [deref] at e
    split at e <;> cases e
  | _ => simp [deref] at e
theorem view_dic (sr : SR G ι S H) {d : D} {v : V} {xs : List (D × D)} (r : Rep G ι H d v) (e : deref S d = .dic xs) : ∃ a vs, v = .ref a ∧ H a = some (.dK vs) ∧ vs.length ≤ sizeLine ∧ RepK G ι H xs vs := by
  cases r with
  | dic t n z r => simp [deref] at e; subst e; exact ⟨_, _, rfl, t, z, r⟩
  | @ref n a h =>
    simp only [deref] at e
    split at e
    · cases e
    · rename_i ys hy
      cases e
      obtain ⟨b, hb, vs, q, z, r⟩ := sr.cell n _ hy
      rw [h] at hb; cases hb
      exact ⟨a, vs, rfl, q, z, r⟩
    · cases e
    · cases e
  | _ => simp [deref] at e
theorem view_int {d : D} {v : V} {i : Int} (r : Rep G ι H d v) (e : deref S d = .int i) : v = .int i := by
  cases r with
  | int j => simp [deref] at e; rw [e]
  | @ref n a h =>
    simp only [deref] at e
    split at e <;> cases e
  | _ => simp [deref] at e
theorem view_bl {d : D} {v : V} {b : Bool} (r : Rep G ι H d v) (e : deref S d = .bl b) : v = .bl b := by
  cases r with
  | bl j => simp [deref] at e; rw [e]
  | @ref n a h =>
    simp only [deref] at e
    split at e <;> cases e
  | _ => simp [deref] at e
theorem view_str {d : D} {v : V} {s : Str} (r : Rep G ι H d v) (e : deref S d = .str s) : v = .str s ∧ StrG s := by
  cases r with
  | str j h => simp [deref] at e; rw [← e]; exact ⟨rfl, h⟩
  | @ref n a h =>
    simp only [deref] at e
    split at e <;> cases e
  | _ => simp [deref] at e
theorem view_non {d : D} {v : V} (r : Rep G ι H d v) (e : deref S d = .non) : v = .non := by
  cases r with
  | non => rfl
  | @ref n a h =>
    simp only [deref] at e
    split at e <;> cases e
  | _ => simp [deref] at e
mutual
theorem Rep.dp {d : D} {v : V} : Rep G ι H d v → d.isPy = true → Dp G.K H v d.py ∧ d.py.canLay0 = true
  | .non, _ => ⟨.non, by simp [D.py, PyData.canLay0]⟩
  | .bl b, _ => ⟨.bl b, by simp [D.py, PyData.canLay0]⟩
  | .int i, _ => ⟨.int i, by simp [D.py, PyData.canLay0]⟩
  | .str s h, _ => ⟨.str s, by simp [D.py, PyData.canLay0, h.1]⟩
  | .tup t z r, h => by
    rw [D.isPy] at h
    obtain ⟨h1, h2⟩ := Reps.dp r h
    exact ⟨.tup t.sq h1, by rw [D.py, PyData.canLay0]; exact h2⟩
  | .lst t n z r, h => by
    rw [D.isPy] at h
    obtain ⟨h1, h2⟩ := Reps.dp r h
    exact ⟨.lst (.inl (.inl t)) h1, by rw [D.py, PyData.canLay0]; exact h2⟩
  | .dic _ _ _ _, h => by simp [D.isPy] at h
  | .ref _, h => by simp [D.isPy] at h
  | .inp _ _ _, h => by simp [D.isPy] at h
theorem Reps.dp {ds : List D} {vs : List V} : Reps G ι H ds vs → D.isPys ds = true → DpAll G.K H vs (D.pys ds) ∧ PyData.canLayAll0 (D.pys ds) = true
  | .nil, _ => ⟨.nil, by simp [D.pys, PyData.canLayAll0]⟩
  | .cons h t, e => by
    rw [D.isPys, Bool.and_eq_true] at e
    obtain ⟨h1, h2⟩ := Rep.dp h e.1
    obtain ⟨h3, h4⟩ := Reps.dp t e.2
    exact ⟨.cons h1 h3, by rw [D.pys, PyData.canLayAll0, h2, h4]; rfl⟩
end
theorem view_py (sr : SR G ι S H) {d : D} {v : V} (r : Rep G ι H d v) (e : (deref S d).isPy = true) : Dp G.K H v (deref S d).py ∧ (deref S d).py.canLay0 = true := by
  cases hd : deref S d with
  | lst xs =>
    rw [hd, D.isPy] at e
    obtain ⟨a, vs, rfl, q, z, r⟩ := view_lst sr r hd
    obtain ⟨h1, h2⟩ := r.dp e
    exact ⟨.lst (.inl q) h1, by rw [D.py, PyData.canLay0]; exact h2⟩
  | tup xs =>
    rw [hd, D.isPy] at e
    obtain ⟨a, vs, rfl, q, z, r⟩ := view_tup sr r hd
    obtain ⟨h1, h2⟩ := r.dp e
    exact ⟨.tup q.sq h1, by rw [D.py, PyData.canLay0]; exact h2⟩
  | non => rw [view_non r hd]; exact ⟨.non, by simp [D.py, PyData.canLay0]⟩
  | bl b => rw [view_bl r hd]; exact ⟨.bl b, by simp [D.py, PyData.canLay0]⟩
  | int i => rw [view_int r hd]; exact ⟨.int i, by simp [D.py, PyData.canLay0]⟩
  | str s => rw [(view_str r hd).1]; exact ⟨.str s, by simp [D.py, PyData.canLay0, (view_str r hd).2.1]⟩
  | dic _ => rw [hd] at e; simp [D.isPy] at e
  | set _ => rw [hd] at e; simp [D.isPy] at e
  | ref _ => rw [hd] at e; simp [D.isPy] at e
  | inp _ => rw [hd] at e; simp [D.isPy] at e

/-- what follows, once a datum has come -/
def Cont (G : Cn) (ι : List Addr) (H : Hp) (S' : Store) (d : D) (Q : VK) : Prop := ∀ v H' ι', Ext ι H ι' H' → SR G ι' S' H' → Rep G ι' H' d v → Q v H'
theorem Cont.here {d : D} {v : V} {Q : VK} (c : Cont G ι H S d Q) (sr : SR G ι S H) (r : Rep G ι H d v) : Q v H := c v H ι Ext.refl sr r
/-- a new row -/
theorem Cont.lst {xs : List D} {vs : List V} {Q : VK} (c : Cont G ι H S (.lst xs) Q) (sr : SR G ι S H) (r : Reps G ι H xs vs) (z : vs.length ≤ sizeLine) {p : Addr} (h : H p = none) : Q (.ref p) (upd H p (.lst vs)) :=
  c _ _ ι (new_ext sr h _) (new_sr sr h _) (.lst upd_same (sr.fre h) z (r.ext (new_ext sr h _)))
theorem Cont.tup {xs : List D} {vs : List V} {Q : VK} (c : Cont G ι H S (.tup xs) Q) (sr : SR G ι S H) (r : Reps G ι H xs vs) (z : vs.length ≤ sizeLine) {p : Addr} (h : H p = none) : Q (.ref p) (upd H p (.tup vs)) :=
  c _ _ ι (new_ext sr h _) (new_sr sr h _) (.tup (.inl ⟨.inl upd_same, sr.fre h⟩) z (r.ext (new_ext sr h _)))
end
end Fw
end
section
set_option Elab.async false
set_option linter.all false
set_option autoImplicit false
set_option maxRecDepth 100000
set_option maxHeartbeats 4000000
namespace Fw
open PySem PySem.Spec PyProof.Rows L2

/-! ### tuples times 0 and 1 -/
theorem tuple_mul1 (l : Addr) (items : Array Value) (n : Nat) (dd : Option Addr) (sl : Array (Option Value)) (u : Tok) :
    Meets (Builtin.«tuple.__mul__» ⟨[.ref l, .int 1 u], []⟩) (fun _ R s => s.heap.get? l = some { cls := .type "tuple", dict := dd, data := .seq items n, slots := sl } ∧
      R (.ok (.ret (Value.ref l))) s) :=
  .of_wp fun prog w A R s h => by
    obtain ⟨hp, g, d, tk, os⟩ := s
    obtain ⟨hl, h⟩ := h
    have f1 := AutoSeq1.idx_int
    wp_walk using wpAny_loadPart' hl
    exact ⟨_, rfl, h⟩
theorem tuple_mul0 (l : Addr) (items : Array Value) (n : Nat) (dd : Option Addr) (sl : Array (Option Value)) (u : Tok) (hne : items.isEmpty = false) :
    Meets (Builtin.«tuple.__mul__» ⟨[.ref l, .int 0 u], []⟩) (fun _ R s => s.heap.get? l = some { cls := .type "tuple", dict := dd, data := .seq items n, slots := sl } ∧
      R (.ok (.ret (Value.ref s.heap.objs.size))) { s with heap := s.heap.push { cls := Value.type "tuple", data := Data.seq #[] }, toks := s.toks }) :=
  .of_wp fun prog w A R s h => by
    obtain ⟨hp, g, d, tk, os⟩ := s
    obtain ⟨hl, h⟩ := h
    have f1 := AutoSeq1.idx_int
    wp_walk using wpAny_loadPart' hl
    repeat (first
      | (refine wpAny_ite_false (decide_eq_false (by rw [hne]; decide)) ?_; wp_walk using wpAny_loadPart' hl))
    exact ⟨_, rfl, h⟩

section
variable {X : Cx} {G : Cn}
def rB (G : Cn) (op : B2) : R2 := fun x y H Q => ∃ ι S d1 d2 d, SR G ι S H ∧ Rep G ι H d1 x ∧ Rep G ι H d2 y ∧ bin op (deref S d1) (deref S d2) = some d ∧ Cont G ι H S d Q

theorem strG_append {x y : Str} (hx : StrG x) (hy : StrG y) (h : x.length + y.length ≤ sizeLine) : StrG (x ++ y) := by
  obtain ⟨x⟩ := x
  obtain ⟨y⟩ := y
  refine ⟨?_, ?_⟩
  · show (x ++ y).all _ = true
    rw [Array.all_append, Bool.and_eq_true]
    exact ⟨hx.1, hy.1⟩
  · show (x ++ y).size ≤ _
    rw [Array.size_append]
    exact h
theorem LIM_eq : LIM = sizeLine := by decide

theorem op_add_ok (hK : X.K = G.K) : OpR X (binaryOp .Add) (rB G .add) := by
  intro pins s σ H x y v u Q I rx ry ⟨ι, S, d1, d2, d, sr, r1, r2, e, c⟩
  cases h1 : deref S d1 with
  | int i =>
    cases h2 : deref S d2 with
    | int j =>
      rw [h1, h2] at e
      simp only [bin, Option.some.injEq] at e
      subst e
      exact op_add pins s σ H x y v u Q I rx ry ⟨i, j, view_int r1 h1, view_int r2 h2, c.here sr (.int _)⟩
    | _ => rw [h1, h2] at e; simp [bin] at e
  | str i =>
    cases h2 : deref S d2 with
    | str j =>
      rw [h1, h2] at e
      simp only [bin] at e
      split at e
      · rename_i hz
        simp only [Option.some.injEq] at e
        subst e
        rw [LIM_eq] at hz
        exact op_add_str pins s σ H x y v u Q I rx ry ⟨i, j, (view_str r1 h1).1, (view_str r2 h2).1, hz, c.here sr (.str _ (strG_append (view_str r1 h1).2 (view_str r2 h2).2 hz))⟩
      · cases e
    | _ => rw [h1, h2] at e; simp [bin] at e
  | tup i =>
    cases h2 : deref S d2 with
    | tup j =>
      rw [h1, h2] at e
      simp only [bin] at e
      split at e
      · rename_i hz
        simp only [Option.some.injEq] at e
        subst e
        rw [LIM_eq] at hz
        obtain ⟨a, xs, rfl, t1, z1, q1⟩ := view_tup sr r1 h1
        obtain ⟨b, ys, rfl, t2, z2, q2⟩ := view_tup sr r2 h2
        have l1 := q1.length
        have l2 := q2.length
        have hz' : xs.length + ys.length ≤ sizeLine := by omega
        refine op_catA pins s σ H _ _ v u Q I rx ry ⟨a, b, xs, ys, rfl, rfl, hK ▸ t1.sq, hK ▸ t2.sq, hz', fun en => ?_, fun n1 en => ?_, fun _ _ p hp => ?_⟩
        · have : i = [] := List.eq_nil_of_length_eq_zero (by rw [l1, en]; rfl)
          subst this
          exact c.here sr (.tup t2 z2 q2)
        · have : j = [] := List.eq_nil_of_length_eq_zero (by rw [l2, en]; rfl)
          subst this
          rw [List.append_nil] at c
          exact c.here sr (.tup t1 z1 q1)
        · exact c.tup sr (q1.append q2) (by rw [List.length_append]; exact hz') hp
      · cases e
    | _ => rw [h1, h2] at e; simp [bin] at e
  | lst i =>
    cases h2 : deref S d2 with
    | lst j =>
      rw [h1, h2] at e
      simp only [bin] at e
      split at e
      · rename_i hz
        simp only [Option.some.injEq] at e
        subst e
        rw [LIM_eq] at hz
        obtain ⟨a, xs, rfl, t1, z1, q1⟩ := view_lst sr r1 h1
        obtain ⟨b, ys, rfl, t2, z2, q2⟩ := view_lst sr r2 h2
        have l1 := q1.length
        have l2 := q2.length
        have hz' : xs.length + ys.length ≤ sizeLine := by omega
        cases rx
        cases ry
        obtain ⟨_, its, n, r, e1⟩ := rd_of I.hok t1
        obtain ⟨_, its2, n2, r2', e2⟩ := rd_of I.hok t2
        have hl := r.length
        have hl2 := r2'.length
        refine PySem.P.add_list e1 e2 ?_ (by rw [List.size_toArray, List.size_toArray]; omega)
        have ea : its.toArray ++ its2.toArray = (its ++ its2).toArray := by simp
        rw [ea]
        exact ⟨.ref _, _, I.lnew (t' := s.toks) (r.append r2') (by rw [List.length_append]; omega), rfl, c.lst sr (q1.append q2) (by rw [List.length_append]; exact hz') I.fresh⟩
      · cases e
    | _ => rw [h1, h2] at e; simp [bin] at e
  | _ => rw [h1] at e; simp [bin] at e

theorem op_sub_ok : OpR X (binaryOp .Sub) (rB G .sub) := by
  intro pins s σ H x y v u Q I rx ry ⟨ι, S, d1, d2, d, sr, r1, r2, e, c⟩
  cases h1 : deref S d1 with
  | int i =>
    cases h2 : deref S d2 with
    | int j =>
      rw [h1, h2] at e
      simp only [bin, Option.some.injEq] at e
      subst e
      exact op_sub pins s σ H x y v u Q I rx ry ⟨i, j, view_int r1 h1, view_int r2 h2, c.here sr (.int _)⟩
    | _ => rw [h1, h2] at e; simp [bin] at e
  | _ => rw [h1] at e; simp [bin] at e
/-- an operator on ints with a condition -/
theorem op_int_ok {op : B2} {o : Operator} {C : Int → Int → Prop} {g : Int → Int → Int} (hop : OpR X (binaryOp o) (rI C fun i j => .int (g i j)))
    (hb : ∀ x y d, bin op x y = some d → ∃ i j, x = .int i ∧ y = .int j ∧ C i j ∧ d = .int (g i j)) : OpR X (binaryOp o) (rB G op) := by
  intro pins s σ H x y v u Q I rx ry ⟨ι, S, d1, d2, d, sr, r1, r2, e, c⟩
  obtain ⟨i, j, h1, h2, hc, rfl⟩ := hb _ _ _ e
  exact hop pins s σ H x y v u Q I rx ry ⟨i, j, view_int r1 h1, view_int r2 h2, hc, c.here sr (.int _)⟩
theorem op_int_ok0 {op : B2} {o : Operator} {g : Int → Int → Int} (hop : OpR X (binaryOp o) (rI0 fun i j => .int (g i j)))
    (hb : ∀ x y d, bin op x y = some d → ∃ i j, x = .int i ∧ y = .int j ∧ d = .int (g i j)) : OpR X (binaryOp o) (rB G op) := by
  intro pins s σ H x y v u Q I rx ry ⟨ι, S, d1, d2, d, sr, r1, r2, e, c⟩
  obtain ⟨i, j, h1, h2, rfl⟩ := hb _ _ _ e
  exact hop pins s σ H x y v u Q I rx ry ⟨i, j, view_int r1 h1, view_int r2 h2, c.here sr (.int _)⟩
theorem op_fdiv_ok : OpR X (binaryOp .FloorDiv) (rB G .fdiv) := op_int_ok op_fdivN fun x y d e => by
  cases x <;> cases y <;> simp [bin] at e
  rename_i i j
  exact ⟨i, j, rfl, rfl, ⟨e.1.1, e.1.2⟩, e.2.symm⟩
theorem op_mod_ok : OpR X (binaryOp .Mod) (rB G .mod) := op_int_ok op_modN fun x y d e => by
  cases x <;> cases y <;> simp [bin] at e
  rename_i i j
  exact ⟨i, j, rfl, rfl, e.1, e.2.symm⟩
theorem op_pow_ok : OpR X (binaryOp .Pow) (rB G .pow) := op_int_ok op_pow fun x y d e => by
  cases x <;> cases y <;> simp [bin] at e
  rename_i i j
  exact ⟨i, j, rfl, rfl, ⟨e.1.1.1, e.1.1.2, e.1.2⟩, e.2.symm⟩
theorem op_shl_ok : OpR X (binaryOp .LShift) (rB G .shl) := op_int_ok op_shl fun x y d e => by
  cases x <;> cases y <;> simp [bin] at e
  rename_i i j
  exact ⟨i, j, rfl, rfl, ⟨e.1.1.1, e.1.1.2, e.1.2⟩, e.2.symm⟩
theorem op_shr_ok : OpR X (binaryOp .RShift) (rB G .shr) := op_int_ok op_shr fun x y d e => by
  cases x <;> cases y <;> simp [bin] at e
  rename_i i j
  exact ⟨i, j, rfl, rfl, e.1, e.2.symm⟩
theorem op_and_ok : OpR X (binaryOp .BitAnd) (rB G .band) := op_int_ok0 op_and fun x y d e => by
  cases x <;> cases y <;> simp [bin] at e
  rename_i i j
  exact ⟨i, j, rfl, rfl, e.symm⟩
theorem op_or_ok : OpR X (binaryOp .BitOr) (rB G .bor) := op_int_ok0 op_or fun x y d e => by
  cases x <;> cases y <;> simp [bin] at e
  rename_i i j
  exact ⟨i, j, rfl, rfl, e.symm⟩

def rRepR : R2 := fun x y H Q => ∃ l k xs, x = .ref l ∧ y = .int k ∧ Rd H l (.lst xs) ∧ -(2 ^ 63) ≤ k ∧ k < 2 ^ 63 ∧ xs.length * k.toNat ≤ sizeLine ∧
  ∀ p, H p = none → Q (.ref p) (upd H p (.lst (List.replicate k.toNat xs).flatten))
theorem op_repR : OpR X (binaryOp .Mult) rRepR := by
  intro pins s σ H x y v u Q I rx ry h
  obtain ⟨l, k, xs, rfl, rfl, hH, h1, h2, hz, q⟩ := h
  cases rx
  obtain ⟨t, rfl⟩ := ry
  obtain ⟨z, its, n, r, e⟩ := rd_of I.hok hH
  have hl := r.length
  have hlen : its.toArray.size * k.toNat ≤ sizeLine := by rw [List.size_toArray, ← hl]; exact hz
  have hcap : ¬ its.toArray.size * k.toNat > (2 ^ 63 - 1) / 8 := by
    have : (sizeLine : Nat) ≤ (2 ^ 63 - 1) / 8 := by decide
    omega
  have hfit : ¬ (!Builtin.List.listFitsIndex k) = true := by
    rw [fitsIndex_both h1 h2]
    exact Bool.false_ne_true
  have hlong : ¬ Builtin.List.listTooLong (its.toArray.size * k.toNat) = true := by
    rw [notLongL hlen]
    exact Bool.false_ne_true
  have hnew : List.foldl (fun x1 x2 => x1 ++ x2) #[] (List.replicate (if its.toArray.isEmpty = true then 0 else k.toNat) its.toArray) = (List.replicate k.toNat its).flatten.toArray := by
    have f0 : ∀ m : Nat, List.foldl (fun x1 x2 => x1 ++ x2) #[] (List.replicate m its.toArray) = (List.replicate m its).flatten.toArray := fun m => by
      have := foldl_rep its m []
      rw [List.nil_append] at this
      exact this
    rw [f0]
    cases its with
    | nil => simp
    | cons a r' => rw [if_neg (by simp)]
  refine wpAny_binaryOp_repeat_ref (T := "list") (U := "int") (by decide) ⟨_, e, rfl⟩ (fun s' => typeIs_int s' k t) noFill_list_mul F.fills_int_mul F.slot_int_rmul repeat_list F.slot_int_index.lookup
    (call_meets F.slot_int_rmul (typeIs_int s k t) F.entry_int_rmul (F.args_int_rmul_2 _ _) (int___rmul___int_list k t l its.toArray n)
      ⟨e, rfl, ⟨_, e, rfl⟩, call_meets F.slot_list_mul ⟨_, e, rfl⟩ F.entry_list_mul (F.args_list_mul_2 _ _) (AutoListH.list___mul___list_int_3 l its.toArray n k t hfit hcap hlong) ⟨e, ?_⟩⟩)
  rw [hnew]
  exact ⟨.ref _, _, I.lnew (t' := s.toks) (r.rep k.toNat) (by rw [PyProof.Rows.lm_len_rep_flat, Nat.mul_comm]; exact hz), rfl, q _ I.fresh⟩

theorem op_mul_ok (hK : X.K = G.K) : OpR X (binaryOp .Mult) (rB G .mul) := by
  intro pins s σ H x y v u Q I rx ry ⟨ι, S, d1, d2, d, sr, r1, r2, e, c⟩
  cases h2 : deref S d2 with
  | int k =>
    have hy := view_int r2 h2
    subst hy
    cases h1 : deref S d1 with
    | int i =>
      rw [h1, h2] at e
      simp only [bin] at e
      split at e
      · rename_i hc
        simp only [Option.some.injEq] at e
        subst e
        simp only [Bool.or_eq_true, Bool.and_eq_true, decide_eq_true_eq] at hc
        exact op_mul pins s σ H x _ v u Q I rx ry ⟨i, k, view_int r1 h1, rfl, hc, c.here sr (.int _)⟩
      · cases e
    | lst xs =>
      rw [h1, h2] at e
      simp only [bin] at e
      split at e
      · rename_i hc
        simp only [Option.some.injEq] at e
        subst e
        simp only [Bool.and_eq_true, decide_eq_true_eq] at hc
        obtain ⟨⟨c1, c2⟩, c3⟩ := hc
        rw [LIM_eq] at c3
        obtain ⟨a, vs, rfl, t1, z1, q1⟩ := view_lst sr r1 h1
        have l1 := q1.length
        rcases t1 with t1 | ⟨ob, t1⟩
        · refine op_rep pins s σ H _ _ v u Q I rx ry ⟨a, k, vs, rfl, rfl, t1, c1, c2, by rw [← l1]; exact c3, fun p hp => ?_⟩
          exact c.lst sr (q1.rep _) (by rw [PyProof.Rows.lm_len_rep_flat, Nat.mul_comm, ← l1]; exact c3) hp
        · exact op_repR pins s σ H _ _ v u Q I rx ry ⟨a, k, vs, rfl, rfl, .inr ⟨ob, t1⟩, c1, c2, by rw [← l1]; exact c3, fun p hp => c.lst sr (q1.rep _) (by rw [PyProof.Rows.lm_len_rep_flat, Nat.mul_comm, ← l1]; exact c3) hp⟩
      · cases e
    | tup xs =>
      rw [h1, h2] at e
      simp only [bin] at e
      split at e
      · rename_i hc
        simp only [Option.some.injEq] at e
        subst e
        simp only [Bool.and_eq_true, decide_eq_true_eq] at hc
        obtain ⟨⟨⟨c0, c1⟩, c2⟩, c3⟩ := hc
        obtain ⟨a, vs, rfl, t1, z1, q1⟩ := view_tup sr r1 h1
        have l1 := q1.length
        have hne : vs ≠ [] := fun z => by
          rw [z] at l1
          have : xs = [] := List.eq_nil_of_length_eq_zero l1
          rw [this] at c0
          simp at c0
        by_cases hk : 2 ≤ k
        · refine op_repT pins s σ H _ _ v u Q I rx ry ⟨a, k, vs, rfl, rfl, hK ▸ t1.sq, hne, hk, c2, by omega, fun p hp => ?_⟩
          refine c.tup sr (q1.rep _) ?_ hp
          rw [PyProof.Rows.lm_len_rep_flat, sizeLine_eq]
          have a1 : k.toNat * vs.length ≤ 1000 * 1000 := Nat.mul_le_mul (by omega) (by omega)
          omega
        · cases rx
          obtain ⟨t, rfl⟩ := ry
          obtain ⟨its, r, ⟨⟨cls, dd, data, sl⟩, ho, hcl, n, hd⟩, hs⟩ := I.tuple (hK ▸ t1.sq : SqT X.K H a vs)
          simp only at hcl hd
          subst hcl hd
          have hn : its ≠ [] := fun e => hne (by
            have := r.length
            rw [e] at this
            exact List.eq_nil_of_length_eq_zero this)
          by_cases hk1 : k = 1
          · subst hk1
            have : Fw.rep (Int.toNat 1) xs = xs := by simp [Fw.rep]
            rw [this] at c
            refine wpAny_binaryOp_repeat_ref (T := "tuple") (U := "int") (by decide) ⟨_, ho, rfl⟩ (fun s' => typeIs_int s' 1 t) noFill_tuple_mul F.fills_int_mul F.slot_int_rmul repeat_tuple F.slot_int_index.lookup
              (call_meets F.slot_int_rmul (typeIs_int s 1 t) F.entry_int_rmul (F.args_int_rmul_2 _ _) (int_rmul_tuple 1 t a its.toArray n dd sl)
                ⟨ho, rfl, ⟨_, ho, rfl⟩, call_meets F.slot_tuple_mul ⟨_, ho, rfl⟩ F.entry_tuple_mul (F.args_tuple_mul_2 _ _) (tuple_mul1 a its.toArray n dd sl t) ⟨ho, ?_⟩⟩)
            exact ⟨.ref a, H, I, rfl, c.here sr (.tup t1 z1 q1)⟩
          · have hk0 : k = 0 := by omega
            subst hk0
            have : Fw.rep (Int.toNat 0) xs = [] := by simp [Fw.rep]
            rw [this] at c
            refine wpAny_binaryOp_repeat_ref (T := "tuple") (U := "int") (by decide) ⟨_, ho, rfl⟩ (fun s' => typeIs_int s' 0 t) noFill_tuple_mul F.fills_int_mul F.slot_int_rmul repeat_tuple F.slot_int_index.lookup
              (call_meets F.slot_int_rmul (typeIs_int s 0 t) F.entry_int_rmul (F.args_int_rmul_2 _ _) (int_rmul_tuple 0 t a its.toArray n dd sl)
                ⟨ho, rfl, ⟨_, ho, rfl⟩, call_meets F.slot_tuple_mul ⟨_, ho, rfl⟩ F.entry_tuple_mul (F.args_tuple_mul_2 _ _) (tuple_mul0 a its.toArray n dd sl t (by
                  cases its with
                  | nil => exact absurd rfl hn
                  | cons a b => rfl)) ⟨ho, ?_⟩⟩)
            refine ⟨.ref s.heap.objs.size, _, I.laid (t' := s.toks) (o := .tup []) (fun b ob q => Heap.get?_push_of_some _ q) (Nat.le_refl _) ?_, rfl, c.tup sr .nil (Nat.zero_le _) I.fresh⟩
            exact ⟨Nat.zero_le _, _, .nil, IsTup.new _ _⟩
      · cases e
    | _ => rw [h1, h2] at e; simp [bin] at e
  | _ => rw [h2] at e; cases h1 : deref S d1 <;> rw [h1] at e <;> simp [bin] at e

/-! ### comparisons -/
theorem op_eq_ok (hK : X.K = G.K) (hu : X.A.units + 70 < cLine) : OpR X (compareOp .Eq) (rB G .eq) := by
  intro pins s σ H x y v u Q I rx ry ⟨ι, S, d1, d2, d, sr, r1, r2, e, c⟩
  simp only [bin, eqD] at e
  split at e
  · rename_i hc
    simp only [Bool.and_eq_true, Bool.or_eq_true, decide_eq_true_eq] at hc
    simp only [Option.map_some, Option.some.injEq] at e
    subst e
    obtain ⟨p1, c1⟩ := view_py sr r1 hc.1.1
    obtain ⟨p2, c2⟩ := view_py sr r2 hc.1.2
    rw [← hK] at p1 p2
    obtain ⟨as, q1⟩ := Dp.reads I _ _ v p1 rx
    obtain ⟨bs, q2⟩ := Dp.reads I _ _ u p2 ry
    have hd := hc.2
    unfold D.dep at hd
    exact SeqAt.compareEq_reads q1 q2 c1 c2 (by omega) ⟨.bl _, H, I, rfl, c.here sr (.bl _)⟩
  · cases e
theorem op_ne_ok (hK : X.K = G.K) (hu : X.A.units + 70 < cLine) : OpR X (compareOp .NotEq) (rB G .ne) := by
  intro pins s σ H x y v u Q I rx ry ⟨ι, S, d1, d2, d, sr, r1, r2, e, c⟩
  simp only [bin, eqD] at e
  split at e
  · rename_i hc
    simp only [Bool.and_eq_true, Bool.or_eq_true, decide_eq_true_eq] at hc
    simp only [Option.map_some, Option.some.injEq] at e
    subst e
    obtain ⟨p1, c1⟩ := view_py sr r1 hc.1.1
    obtain ⟨p2, c2⟩ := view_py sr r2 hc.1.2
    rw [← hK] at p1 p2
    obtain ⟨as, q1⟩ := Dp.reads I _ _ v p1 rx
    obtain ⟨bs, q2⟩ := Dp.reads I _ _ u p2 ry
    have hd := hc.2
    unfold D.dep at hd
    exact SeqAt.compareNe_reads q1 q2 c1 c2 (by omega) ⟨.bl _, H, I, rfl, c.here sr (.bl _)⟩
  · cases e
theorem ltD_ok (hK : X.K = G.K) (hu : X.A.units + 70 < cLine) {pins : List (Addr × Obj)} {s : Shared} {σ : L2.St} {H : Hp} {x y : V} {v u : Value} {Q : VK} {ι : List Addr} {S : Store} {d1 d2 : D} {b : Bool} (I : L2.Inv X pins σ H s) (rx : L2.RelV x v) (ry : L2.RelV y u)
    (sr : SR G ι S H) (r1 : Rep G ι H d1 x) (r2 : Rep G ι H d2 y) (e : ltD (deref S d1) (deref S d2) = some b) (c : Q (.bl b) H) : wpAny (model X.prog X.w) X.A (compareOp .Lt v u) (EP X pins σ Q) X.xe s := by
  simp only [ltD] at e
  split at e
  · rename_i hc
    simp only [Bool.and_eq_true, Bool.or_eq_true, decide_eq_true_eq] at hc
    obtain ⟨⟨⟨⟨h1, h2⟩, h3⟩, h4⟩, h5⟩ := hc
    simp only [Option.some.injEq] at e
    subst e
    obtain ⟨p1, c1⟩ := view_py sr r1 h1
    obtain ⟨p2, c2⟩ := view_py sr r2 h2
    rw [← hK] at p1 p2
    obtain ⟨as, q1⟩ := Dp.reads I _ _ v p1 rx
    obtain ⟨bs, q2⟩ := Dp.reads I _ _ u p2 ry
    unfold D.dep at h4
    refine PySem.W.lt_data q1 q2 h3 ?_ (by omega) ⟨.bl _, H, I, rfl, c⟩
    intro z
    cases hd : deref S d1 with
    | non => rw [hd] at h5; simp [notNon] at h5
    | ref n => rw [hd] at h1; simp [D.isPy] at h1
    | dic n => rw [hd] at h1; simp [D.isPy] at h1
    | set n => rw [hd] at h1; simp [D.isPy] at h1
    | inp n => rw [hd] at h1; simp [D.isPy] at h1
    | _ => rw [hd] at z; simp [D.py] at z
  · cases e
theorem op_lt_ok (hK : X.K = G.K) (hu : X.A.units + 70 < cLine) : OpR X (compareOp .Lt) (rB G .lt) := by
  intro pins s σ H x y v u Q I rx ry ⟨ι, S, d1, d2, d, sr, r1, r2, e, c⟩
  by_cases hi : ∃ i j, deref S d1 = .int i ∧ deref S d2 = .int j
  · obtain ⟨i, j, h1, h2⟩ := hi
    rw [h1, h2] at e
    simp only [bin, Option.some.injEq] at e
    subst e
    exact op_lt pins s σ H x y v u Q I rx ry ⟨i, j, view_int r1 h1, view_int r2 h2, c.here sr (.bl _)⟩
  · have e' : (ltD (deref S d1) (deref S d2)).map D.bl = some d := by
      revert e
      cases h1 : deref S d1 <;> cases h2 : deref S d2 <;> intro e <;> first | exact e | exact absurd ⟨_, _, h1, h2⟩ hi
    cases hb : ltD (deref S d1) (deref S d2) with
    | none => rw [hb] at e'; cases e'
    | some b =>
      rw [hb] at e'
      simp only [Option.map_some, Option.some.injEq] at e'
      subst e'
      exact ltD_ok hK hu I rx ry sr r1 r2 hb (c.here sr (.bl _))
theorem op_cmp_ok {op : B2} {o : CmpOp} {g : Int → Int → Bool} (hop : OpR X (compareOp o) (rI0 fun i j => .bl (g i j)))
    (hb : ∀ x y d, bin op x y = some d → ∃ i j, x = .int i ∧ y = .int j ∧ d = .bl (g i j)) : OpR X (compareOp o) (rB G op) := by
  intro pins s σ H x y v u Q I rx ry ⟨ι, S, d1, d2, d, sr, r1, r2, e, c⟩
  obtain ⟨i, j, h1, h2, rfl⟩ := hb _ _ _ e
  exact hop pins s σ H x y v u Q I rx ry ⟨i, j, view_int r1 h1, view_int r2 h2, c.here sr (.bl _)⟩
theorem op_gt_ok : OpR X (compareOp .Gt) (rB G .gt) := op_cmp_ok op_gt fun x y d e => by
  cases x <;> cases y <;> simp [bin] at e
  rename_i i j
  exact ⟨i, j, rfl, rfl, e.symm⟩
theorem op_le_ok : OpR X (compareOp .LtE) (rB G .le) := op_cmp_ok op_le fun x y d e => by
  cases x <;> cases y <;> simp [bin] at e
  rename_i i j
  exact ⟨i, j, rfl, rfl, e.symm⟩
theorem op_ge_ok : OpR X (compareOp .GtE) (rB G .ge) := op_cmp_ok op_ge fun x y d e => by
  cases x <;> cases y <;> simp [bin] at e
  rename_i i j
  exact ⟨i, j, rfl, rfl, e.symm⟩

/-- x in a row -/
theorem mem_parts {x : D} {ys : List D} {b : Bool} (e : memD x ys = some b) : x.isPy = true ∧ D.isPys ys = true ∧ (x.dep ≤ 63 ∨ PyData.depthAll (D.pys ys) ≤ 63) ∧ b = (D.pys ys).any fun y => PyData.eqv y x.py := by
  simp only [memD] at e
  split at e
  · rename_i hc
    simp only [Bool.and_eq_true, Bool.or_eq_true, decide_eq_true_eq] at hc
    simp only [Option.some.injEq] at e
    refine ⟨hc.1.1, hc.1.2, ?_, ?_⟩
    · rcases hc.2 with h | h
      · exact .inl h
      · right
        unfold D.dep at h
        rw [D.py, PyData.depth] at h
        omega
    · rw [← e, D.pys_map, List.any_map]; rfl
  · cases e
theorem op_in_ok (hK : X.K = G.K) (hu : X.A.units + 70 < cLine) : OpR X (compareOp .In) (rB G .inn) := by
  intro pins s σ H x y v u Q I rx ry ⟨ι, S, d1, d2, d, sr, r1, r2, e, c⟩
  cases h2 : deref S d2 with
  | tup ys =>
    have e' : (memD (deref S d1) ys).map D.bl = some d := by rw [h2] at e; cases h1 : deref S d1 <;> rw [h1] at e <;> exact e
    cases hb : memD (deref S d1) ys with
    | none => rw [hb] at e'; cases e'
    | some b =>
      rw [hb] at e'
      simp only [Option.map_some, Option.some.injEq] at e'
      subst e'
      obtain ⟨p1, p2, p3, rfl⟩ := mem_parts hb
      obtain ⟨g1, k1⟩ := view_py sr r1 p1
      obtain ⟨g2, k2⟩ := view_py sr r2 (by rw [h2, D.isPy]; exact p2)
      rw [h2, D.py] at g2 k2
      rw [PyData.canLay0] at k2
      rw [← hK] at g1 g2
      obtain ⟨as, q1⟩ := Dp.reads I _ _ v g1 rx
      obtain ⟨bs, q2⟩ := Dp.reads I _ _ u g2 ry
      unfold D.dep at p3
      exact SeqAt.in_tuple_reads q2 q1 k2 k1 (by omega) ⟨.bl _, H, I, rfl, c.here sr (.bl _)⟩
  | lst ys =>
    have e' : (memD (deref S d1) ys).map D.bl = some d := by rw [h2] at e; cases h1 : deref S d1 <;> rw [h1] at e <;> exact e
    cases hb : memD (deref S d1) ys with
    | none => rw [hb] at e'; cases e'
    | some b =>
      rw [hb] at e'
      simp only [Option.map_some, Option.some.injEq] at e'
      subst e'
      obtain ⟨p1, p2, p3, rfl⟩ := mem_parts hb
      obtain ⟨g1, k1⟩ := view_py sr r1 p1
      obtain ⟨g2, k2⟩ := view_py sr r2 (by rw [h2, D.isPy]; exact p2)
      rw [h2, D.py] at g2 k2
      rw [PyData.canLay0] at k2
      rw [← hK] at g1 g2
      obtain ⟨as, q1⟩ := Dp.reads I _ _ v g1 rx
      obtain ⟨bs, q2⟩ := Dp.reads I _ _ u g2 ry
      unfold D.dep at p3
      exact SeqAt.in_list_reads q2 q1 k2 k1 (by omega) ⟨.bl _, H, I, rfl, c.here sr (.bl _)⟩
  | str j =>
    cases h1 : deref S d1 with
    | str i =>
      rw [h1, h2] at e
      simp only [bin, Option.some.injEq] at e
      subst e
      exact op_in_str pins s σ H x y v u Q I rx ry ⟨i, j, (view_str r1 h1).1, (view_str r2 h2).1, c.here sr (.bl _)⟩
    | _ => rw [h1, h2] at e; simp [bin] at e
  | dic kvs =>
    have e' : (keyD (deref S d1)).map (fun k => D.bl (lookD k kvs).isSome) = some d := by rw [h2] at e; cases h1 : deref S d1 <;> rw [h1] at e <;> exact e
    cases hk : keyD (deref S d1) with
    | none => rw [hk] at e'; cases e'
    | some k =>
      rw [hk] at e'
      simp only [Option.map_some, Option.some.injEq] at e'
      subst e'
      obtain ⟨a, vs, rfl, t, z, q⟩ := view_dic sr r2 h2
      have hx : x = kV k := by
        cases h1 : deref S d1 <;> rw [h1] at hk <;> simp [keyD] at hk
        · rw [← hk, view_int r1 h1]; rfl
        · rw [← hk, (view_str r1 h1).1]; rfl
      subst hx
      cases ry
      have g := DGet.k (k := k) t
      have hs : (valV vs k).isSome = (lookD k kvs).isSome := by
        have := q.look k
        cases hl : lookD k kvs with
        | none => rw [hl] at this; rw [this]; rfl
        | some w => rw [hl] at this; obtain ⟨w', h, _⟩ := this; rw [h]; rfl
      refine d_in (by omega) I g rx fun s' I' => ⟨.bl _, H, I', ?_, c.here sr (.bl _)⟩
      rw [hs]
      rfl
  | _ => rw [h2] at e; cases h1 : deref S d1 <;> rw [h1] at e <;> simp [bin] at e
theorem op_notin_ok (hK : X.K = G.K) (hu : X.A.units + 70 < cLine) : OpR X (compareOp .NotIn) (rB G .notin) := by
  intro pins s σ H x y v u Q I rx ry ⟨ι, S, d1, d2, d, sr, r1, r2, e, c⟩
  cases h2 : deref S d2 with
  | tup ys =>
    have e' : (memD (deref S d1) ys).map (fun b => D.bl (!b)) = some d := by rw [h2] at e; cases h1 : deref S d1 <;> rw [h1] at e <;> exact e
    cases hb : memD (deref S d1) ys with
    | none => rw [hb] at e'; cases e'
    | some b =>
      rw [hb] at e'
      simp only [Option.map_some, Option.some.injEq] at e'
      subst e'
      obtain ⟨p1, p2, p3, rfl⟩ := mem_parts hb
      obtain ⟨g1, k1⟩ := view_py sr r1 p1
      obtain ⟨g2, k2⟩ := view_py sr r2 (by rw [h2, D.isPy]; exact p2)
      rw [h2, D.py] at g2 k2
      rw [PyData.canLay0] at k2
      rw [← hK] at g1 g2
      obtain ⟨as, q1⟩ := Dp.reads I _ _ v g1 rx
      obtain ⟨bs, q2⟩ := Dp.reads I _ _ u g2 ry
      unfold D.dep at p3
      exact SeqAt.notIn_tuple_reads q2 q1 k2 k1 (by omega) ⟨.bl _, H, I, rfl, c.here sr (.bl _)⟩
  | lst ys =>
    have e' : (memD (deref S d1) ys).map (fun b => D.bl (!b)) = some d := by rw [h2] at e; cases h1 : deref S d1 <;> rw [h1] at e <;> exact e
    cases hb : memD (deref S d1) ys with
    | none => rw [hb] at e'; cases e'
    | some b =>
      rw [hb] at e'
      simp only [Option.map_some, Option.some.injEq] at e'
      subst e'
      obtain ⟨p1, p2, p3, rfl⟩ := mem_parts hb
      obtain ⟨g1, k1⟩ := view_py sr r1 p1
      obtain ⟨g2, k2⟩ := view_py sr r2 (by rw [h2, D.isPy]; exact p2)
      rw [h2, D.py] at g2 k2
      rw [PyData.canLay0] at k2
      rw [← hK] at g1 g2
      obtain ⟨as, q1⟩ := Dp.reads I _ _ v g1 rx
      obtain ⟨bs, q2⟩ := Dp.reads I _ _ u g2 ry
      unfold D.dep at p3
      exact SeqAt.notIn_list_reads q2 q1 k2 k1 (by omega) ⟨.bl _, H, I, rfl, c.here sr (.bl _)⟩
  | str j =>
    cases h1 : deref S d1 with
    | str i =>
      rw [h1, h2] at e
      simp only [bin, Option.some.injEq] at e
      subst e
      exact op_notin_str pins s σ H x y v u Q I rx ry ⟨i, j, (view_str r1 h1).1, (view_str r2 h2).1, c.here sr (.bl _)⟩
    | _ => rw [h1, h2] at e; simp [bin] at e
  | dic kvs =>
    have e' : (keyD (deref S d1)).map (fun k => D.bl (!(lookD k kvs).isSome)) = some d := by rw [h2] at e; cases h1 : deref S d1 <;> rw [h1] at e <;> exact e
    cases hk : keyD (deref S d1) with
    | none => rw [hk] at e'; cases e'
    | some k =>
      rw [hk] at e'
      simp only [Option.map_some, Option.some.injEq] at e'
      subst e'
      obtain ⟨a, vs, rfl, t, z, q⟩ := view_dic sr r2 h2
      have hx : x = kV k := by
        cases h1 : deref S d1 <;> rw [h1] at hk <;> simp [keyD] at hk
        · rw [← hk, view_int r1 h1]; rfl
        · rw [← hk, (view_str r1 h1).1]; rfl
      subst hx
      cases ry
      have g := DGet.k (k := k) t
      have hs : (valV vs k).isSome = (lookD k kvs).isSome := by
        have := q.look k
        cases hl : lookD k kvs with
        | none => rw [hl] at this; rw [this]; rfl
        | some w => rw [hl] at this; obtain ⟨w', h, _⟩ := this; rw [h]; rfl
      refine d_notIn (by omega) I g rx fun s' I' => ⟨.bl _, H, I', ?_, c.here sr (.bl _)⟩
      rw [hs]
      rfl
  | _ => rw [h2] at e; cases h1 : deref S d1 <;> rw [h1] at e <;> simp [bin] at e
end
end Fw
end
section
set_option Elab.async false
set_option linter.all false
set_option autoImplicit false
set_option maxRecDepth 100000
set_option maxHeartbeats 4000000
/-! Fw4: sorting of tuples of which some are empty. -/
namespace Fw
open PySem PySem.Spec PyProof.Rows L2

section
variable {A : Around} {s : Shared}
open PySem.SeqAt in
theorem call_tuple_lt {prog : Program} {w : World} {E : Value → Shared → Prop} {Q : Value → Shared → Prop} {l b : Addr} {items items2 : Array Value} {e r : Nat → Bool} (hl : s.heap.IsTuple l items) (hb : s.heap.IsTuple b items2)
    (he : ∀ j (h1 : j < items.size) (h2 : j < items2.size), EqAt A.in1 s items[j] items2[j] (e j)) (hr : ∀ j (h1 : j < items.size) (h2 : j < items2.size), e j = false → RcLt A.in1 s items[j] items2[j] (r j))
    (h : Q (.bool (firstLt e r (decide (items.size < items2.size)) (List.range (min items.size items2.size)))) s) : wpAny (model prog w) A (call (.builtin "tuple.__lt__") [.ref l, .ref b]) Q E s := by
  obtain ⟨⟨cls, dd, data, sl⟩, ho, hc, n, hd⟩ := id hl
  obtain ⟨⟨cls2, dd2, data2, sl2⟩, ho2, hc2, n2, hd2⟩ := id hb
  simp only at hc hd hc2 hd2
  subst hc hd hc2 hd2
  exact call_meets F.slot_tuple_lt ⟨_, ho, rfl⟩ F.entry_tuple_lt (F.args_tuple_lt_2 _ _) (tuple_ltAt l b items items2 n n2 dd dd2 sl sl2 e r) ⟨ho, ho2, he, hr, h⟩
open PySem.SeqAt PySem.W in
theorem oneLt_tup {prog : Program} {w : World} {E : Value → Shared → Prop} {xs ys : List PyData} {a b : Value} {as bs : List Addr} {Q : Bool → Shared → Prop} (ra : Reads s.heap a (.tuple xs) as) (rb : Reads s.heap b (.tuple ys) bs) (hal : alikeAll xs ys = true)
    (hu : A.units + min (PyData.tuple xs).depth (PyData.tuple ys).depth < cLine) (hq : Q (dataLt (.tuple xs) (.tuple ys)) s) : wpAny (model prog w) A (oneLt' true a b) Q E s := by
  cases ra with
  | @tuple l o vs n _ as₁ h1 h2 h3 h4 =>
    cases rb with
    | @tuple l' o' vs' n' _ bs₁ k1 k2 k3 k4 =>
      have n1 : vs.size = xs.length := by simpa using ReadsAll.length _ _ _ h4
      have n2 : vs'.size = ys.length := by simpa using ReadsAll.length _ _ _ k4
      rw [dataLt_tuple, ← firstLt_toks xs ys hal, ← n1, ← n2] at hq
      rw [oneLt'_eq]
      simp only [if_true]
      refine wpAny_bind (wpAny_cRoomFor (by omega) ?_)
      refine wpAny_bind (wpAny_callSpecialIfBound?_slot (T := "tuple") ⟨_, h1, h2⟩ F.slot_tuple_lt (call_tuple_lt (e := pairEq xs ys) (r := fun j => dataLt (xs.getD j .none) (ys.getD j .none)) ⟨_, h1, h2, _, h3⟩ ⟨_, k1, k2, _, k3⟩ (fun j j1 j2 => ?_) (fun j j1 j2 hj => ?_) ?_))
      · have := eqAt_alikeAll xs ys A.in1 s vs.toList vs'.toList _ _ h4 k4 hal (SeqAt.room_in hu) j (by simpa using j1) (by simpa using j2)
        simpa using this
      · have := rcLt_alikeAll xs ys A.in1 s vs.toList vs'.toList _ _ h4 k4 hal (SeqAt.room_in hu) j (by simpa using j1) (by simpa using j2) hj
        simpa using this
      · exact wpAny_truthy_bool hq
end

section
variable {M : Model} {A : Around} {E : Value → Shared → Prop} {s : Shared}
open PySem.W in
/-- each value's first item, if it is a tuple with one -/
theorem firsts_any {ds : List PyData} (ht : ∀ d, d ∈ ds → ∃ xs, d = .tuple xs) : ∀ {vs : List Value}, EachIs (fun v d => ∃ as, Reads s.heap v d as) vs ds →
    ∃ fs : List (Option Value), fs.length = vs.length ∧ (∀ i : Nat, (fs[i]?.bind id).isSome = true ↔ ∃ x r, ds[i]? = some (.tuple (x :: r))) ∧ ∀ {Q : List (Option Value) → Shared → Prop}, Q fs s → wpAny M A (vs.mapM firstOfTuple') Q E s := by
  induction ds with
  | nil =>
    intro vs e
    cases e
    exact ⟨[], rfl, fun i => by simp, fun h => by rw [List.mapM_nil]; exact wpAny_pure h⟩
  | cons d ds ih =>
    intro vs e
    cases e with
    | cons r t =>
      obtain ⟨as, r⟩ := r
      obtain ⟨fs, h1, h2, h3⟩ := ih (fun d hd => ht d (List.mem_cons_of_mem _ hd)) t
      obtain ⟨xs, rfl⟩ := ht d (List.mem_cons_self ..)
      cases r with
      | @tuple a o its n _ _ ho hc hd hr =>
        refine ⟨its[0]? :: fs, by simp [h1], fun i => ?_, fun {Q} h => ?_⟩
        · cases i with
          | zero =>
            simp only [List.getElem?_cons_zero, Option.bind_some, id, Option.some.injEq]
            cases xs with
            | nil =>
              have hz : its.toList = [] := by cases q : its.toList with | nil => rfl | cons _ _ => rw [q] at hr; cases hr
              have : its[0]? = none := by rw [← Array.getElem?_toList, hz]; rfl
              simp [this]
            | cons x r =>
              have hz : ∃ f fr, its.toList = f :: fr := by cases q : its.toList with | nil => rw [q] at hr; cases hr | cons f fr => exact ⟨f, fr, rfl⟩
              obtain ⟨f, fr, hz⟩ := hz
              have : its[0]? = some f := by rw [← Array.getElem?_toList, hz]; rfl
              simp [this]
          | succ i => simpa using h2 i
        · rw [List.mapM_cons]
          refine wpAny_bind ?_
          rw [PySem.W.kas_first_eq]
          refine wpAny_bind (PySem.W.Looks.here (show PySem.W.Looks M s.heap (typeOf (.ref a)) o.cls from (PySem.W.Looks.ld ho).andThen .now) ?_)
          rw [hc, if_neg (by first | decide | simp)]
          refine wpAny_bind (listItems_at ho hd (wpAny_pure ?_))
          exact wpAny_bind (h3 (Q := fun bs s' => wpAny M A (pure (its[0]? :: bs)) Q E s') (wpAny_pure h))
end

section
variable {prog : Program} {w : World} {A : Around} {s : Shared}
open PySem.W in
/-- tuples, of which some are empty, can be sorted -/
theorem sortsAt_tups {vs : List Value} {ds : List PyData} (e : EachIs (fun v d => ∃ as, Reads s.heap v d as) vs ds) (hal : AllAlike ds) (ht : ∀ d, d ∈ ds → ∃ xs, d = .tuple xs) (hu : ∀ d, d ∈ ds → A.units + d.depth < cLine) : SortsAt prog w A s (dataKind s.heap ds) vs := by
  by_cases hne : ∀ d, d ∈ ds → ∃ x r, d = .tuple (x :: r)
  · exact SortsAt.data e hal (.inl hne) hu
  have room : ∀ {d d' : PyData}, d ∈ ds → A.units + min d.depth d'.depth < cLine := fun {d d'} hd => Nat.lt_of_le_of_lt (Nat.add_le_add_left (Nat.min_le_left _ _) _) (hu d hd)
  have hal' : ∀ {xs ys}, PyData.tuple xs ∈ ds → PyData.tuple ys ∈ ds → alikeAll xs ys = true := fun {xs ys} h h' => by
    have := hal _ h _ h'
    simpa [alike] using this
  have cmp : ∀ b : Bool, H.LtAt prog w A s (dataKind s.heap ds) (if b then oneType' else general') := fun b => by
    intro E x y a b' Q ha hb hq
    obtain ⟨d, as, hd, ra, rfl⟩ := dataKind_inv ha
    obtain ⟨d', as', hd', rb, rfl⟩ := dataKind_inv hb
    obtain ⟨xs, rfl⟩ := ht d hd
    obtain ⟨ys, rfl⟩ := ht d' hd'
    cases b with
    | true => exact oneLt_tup ra rb (hal' hd hd') (room hd) hq
    | false => exact oneLt_alike (f := false) (fun h => by cases h) ra rb (hal _ hd _ hd') (by simp) (room hd) hq
  refine ⟨fun v hv => ?_, ?_⟩
  · obtain ⟨d, hd, as, r⟩ := e.left v hv
    exact ⟨_, dataKind_some hal hd r⟩
  · by_cases h0 : ∃ x r, ds[0]? = some (.tuple (x :: r))
    · refine ⟨general', cmp false, fun h2 E Q hq => ?_⟩
      obtain ⟨fs, f1, f2, f3⟩ := firsts_any (M := model prog w) (A := A) (E := E) (s := s) ht e
      rw [kat_kind_eq, List.mapM_toArray, map_eq_pure_bind]
      refine wpAny_bind (wpAny_bind (f3 (wpAny_pure ?_)))
      have hn : (fs.toArray.all fun x => x.isSome) = false := by
        cases hb : fs.toArray.all fun x => x.isSome with
        | false => rfl
        | true =>
          exfalso
          apply hne
          intro d hd
          obtain ⟨i, hi, ei⟩ := List.getElem_of_mem hd
          have hlen : fs.length = ds.length := by rw [f1, e.length]
          have hi' : i < fs.length := by omega
          have hs : (fs[i]?.bind id).isSome = true := by
            rw [List.getElem?_eq_getElem hi']
            have := Array.all_eq_true.mp hb i (by simpa using hi')
            simpa using this
          obtain ⟨x, r, ex⟩ := (f2 i).mp hs
          rw [List.getElem?_eq_getElem hi, ei] at ex
          exact ⟨x, r, Option.some.inj ex⟩
      rw [if_neg (by rw [hn]; decide)]
      have h1 : ((fs.toArray[0]?).bind id).isSome = true := by
        have := (f2 0).mpr h0
        simpa using this
      rw [if_pos h1]
      exact wpAny_pure hq
    · refine ⟨oneType', cmp true, fun h2 E Q hq => ?_⟩
      obtain ⟨fs, f1, f2, f3⟩ := firsts_any (M := model prog w) (A := A) (E := E) (s := s) ht e
      rw [kat_kind_eq, List.mapM_toArray, map_eq_pure_bind]
      refine wpAny_bind (wpAny_bind (f3 (wpAny_pure ?_)))
      have h1 : ¬ ((fs.toArray[0]?).bind id).isSome = true := fun z => h0 ((f2 0).mp (by simpa using z))
      have hn : ¬ (fs.toArray.all fun x => x.isSome) = true := fun hb => by
        have hi' : 0 < fs.length := by omega
        have := Array.all_eq_true.mp hb 0 (by simpa using hi')
        apply h1
        simp only [List.getElem?_toArray, List.getElem?_eq_getElem hi', Option.bind_some, id]
        simpa using this
      rw [if_neg hn, if_neg h1]
      obtain ⟨v₁, v₂, rest, rfl⟩ : ∃ v₁ v₂ rest, vs = v₁ :: v₂ :: rest := by
        match vs, h2 with
        | [], h2 => simp at h2
        | [_], h2 => simp at h2
        | v₁ :: v₂ :: rest, _ => exact ⟨v₁, v₂, rest, rfl⟩
      rw [oneTypeOnly'_eq, List.mapM_toArray, map_eq_pure_bind]
      refine wpAny_bind (wpAny_bind (wpAny_bind (kas_mapM (r := Value.type "tuple") _ (fun v hv Q' hq => ?_) (wpAny_pure ?_))))
      · obtain ⟨d, hd, as, r⟩ := e.left v hv
        obtain ⟨xs, rfl⟩ := ht d hd
        exact (looks_reads r).here hq
      · have hall : ((List.map (fun _ => Value.type "tuple") (v₁ :: v₂ :: rest)).toArray.all fun x => x == Value.type "tuple") = true := by
          simp only [List.all_toArray, List.all_map, List.all_eq_true]
          intro _ _
          rfl
        have h0 : (List.map (fun _ => Value.type "tuple") (v₁ :: v₂ :: rest)).toArray[0]? = some (Value.type "tuple") := by simp
        rw [h0]
        simp only [hall, if_true]
        exact wpAny_pure (wpAny_pure hq)
end
end Fw
end
section
set_option Elab.async false
set_option linter.all false
set_option autoImplicit false
set_option maxRecDepth 100000
set_option maxHeartbeats 4000000
/-! Fw5: one-place operators, subscripts, slices, built-in functions. -/
namespace Fw
open PySem PySem.Spec PyProof.Rows L2
section
variable {X : Cx} {G : Cn}

def rIdx (G : Cn) : R2 := fun x y H Q => ∃ ι S d1 d2 d, SR G ι S H ∧ Rep G ι H d1 x ∧ Rep G ι H d2 y ∧ idx (deref S d1) d2 = some d ∧ Cont G ι H S d Q
theorem ix_dict (hu : X.A.units + 1 < cLine) : IxR X (fun x y H Q => ∃ a v, x = .ref a ∧ DGet H a y (some v) ∧ Q v H) := by
  intro value slice pins s σ H x y v u Q I rx ry h hs
  obtain ⟨a, z, rfl, g, q⟩ := h
  cases rx
  have hT := dict_typeIs I g
  unfold subscriptTail
  refine wpAny_bind ?_
  rw [getitemInPython_of_ne hT.not_modules]
  refine wpAny_bind (wpAny_specialOf hT PySem.F.slot_dict_getitem.lookup ?_)
  have fin : wpAny (model X.prog X.w) X.A (subscripted slice false (.ref a) u) (fun r s₃ => wpAny (model X.prog X.w) X.A (letTemporaryGo value (.ref a) r >>= fun _ => pure r) (EP X pins σ Q) X.xe s₃) X.xe s := by
    rw [hs]
    exact wpAny_operating (d_getItem hu I g ry fun w' s3 I3 rw' => wpAny_bind (wpAny_letTemporaryGo (wpAny_pure ⟨z, H, I3, rw', q⟩)))
  first
    | exact wpAny_pure (wpAny_bind fin)
    | exact wpAny_bind (wpAny_pure (wpAny_bind fin))
    | exact wpAny_bind fin
theorem atI_reps {ι : List Addr} {H : Hp} {ds : List D} {vs : List V} (r : Reps G ι H ds vs) {i : Int} {d : D} (e : atI ds i = some d) : ∃ v, atI vs i = some v ∧ Rep G ι H d v := by
  unfold atI at e ⊢
  rw [r.length] at e
  cases h : ixN vs.length i with
  | none => rw [h] at e; cases e
  | some j =>
    rw [h] at e
    exact r.get e
theorem keyV {ι : List Addr} {H : Hp} {d : D} {v : V} {k : Sum Int Str} (r : Rep G ι H d v) (e : keyD d = some k) : v = kV k := by
  cases d <;> simp [keyD] at e <;> subst e <;> cases r <;> rfl
theorem look_get {ι : List Addr} {H : Hp} {S : Store} {ds : List (D × D)} {vs : List (Key × V)} (r : RepK G ι H ds vs) {k : Key} {d : D} (e : lookD k ds = some d) : ∃ v, valV vs k = some v ∧ Rep G ι H d v := by
  have := r.look k
  rw [e] at this
  exact this
theorem ix_ok (hK : X.K = G.K) (hu : X.A.units + 70 < cLine) : IxR X (rIdx G) := by
  intro value slice pins s σ H x y v u Q I rx ry h hs
  obtain ⟨ι, S, d1, d2, d, sr, r1, r2, e, c⟩ := h
  cases h1 : deref S d1 with
  | tup xs =>
    cases d2 <;> rw [h1] at e <;> simp [idx] at e
    rename_i i
    obtain ⟨a, vs, rfl, t, z, q⟩ := view_tup sr r1 h1
    obtain ⟨w, ew, rw'⟩ := atI_reps q e
    cases r2
    exact ix_tup value slice pins s σ H _ _ v u Q I rx ry ⟨a, vs, i, w, rfl, rfl, hK ▸ t.sq, ew, c.here sr rw'⟩ hs
  | lst xs =>
    cases d2 <;> rw [h1] at e <;> simp [idx] at e
    rename_i i
    obtain ⟨a, vs, rfl, t, z, q⟩ := view_lst sr r1 h1
    obtain ⟨w, ew, rw'⟩ := atI_reps q e
    cases r2
    exact ix_list value slice pins s σ H _ _ v u Q I rx ry ⟨a, vs, i, w, rfl, rfl, .inl t, ew, c.here sr rw'⟩ hs
  | str z =>
    cases d2 <;> rw [h1] at e <;> simp [idx] at e
    rename_i i
    obtain ⟨rfl, hz⟩ := view_str r1 h1
    obtain ⟨cc, ec, rfl⟩ := e
    cases r2
    refine ix_str value slice pins s σ H _ _ v u Q I rx ry ⟨z, i, cc, rfl, rfl, hz.2, ec, c.here sr (.str _ ⟨?_, ?_⟩)⟩ hs
    · obtain ⟨j, _, hj, _⟩ := atI_get ec
      have hm : cc ∈ z.cps.toList := List.mem_of_getElem? hj
      have := Array.all_eq_true_iff_forall_mem.mp hz.1 cc (by simpa using hm)
      show (#[cc].all _) = true
      simpa using this
    · show (1 : Nat) ≤ sizeLine; decide
  | dic kvs =>
    rw [h1] at e
    have e' : (keyD d2).bind (fun k => lookD k kvs) = some d := by cases d2 <;> exact e
    obtain ⟨a, vs, rfl, t, z, q⟩ := view_dic sr r1 h1
    cases hk : keyD d2 with
    | none => rw [hk] at e'; cases e'
    | some k =>
      rw [hk] at e'
      obtain ⟨w, ew, rw'⟩ := look_get (S := S) q e'
      have := keyV r2 hk
      subst this
      exact ix_dict (by omega) value slice pins s σ H _ _ v u Q I rx ry ⟨a, w, rfl, by have := DGet.k (k := k) t; rw [ew] at this; exact this, c.here sr rw'⟩ hs
  | _ => rw [h1] at e; simp [idx] at e

/-! ### slices -/
def rSlc (G : Cn) : V → Option Int → Option Int → Hp → VK → Prop := fun x lo hi H Q => ∃ ι S d1 d, SR G ι S H ∧ Rep G ι H d1 x ∧ slc (deref S d1) lo hi = some d ∧ Cont G ι H S d Q
theorem cut_reps {ι : List Addr} {H : Hp} {ds : List D} {vs : List V} (r : Reps G ι H ds vs) (lo hi : Option Int) : Reps G ι H (cut ds lo hi) (cutV vs lo hi) := by
  unfold cut cutV
  rw [r.length]
  exact (r.drop _).take _
theorem cut_all {α : Type} {xs : List α} {lo hi : Option Int} (h1 : HT.sIx xs.length 0 lo = 0) (h2 : HT.sIx xs.length xs.length hi = xs.length) : cut xs lo hi = xs := by
  unfold cut
  rw [h1, h2]
  simp
theorem sl_ok (hK : X.K = G.K) : SlR X (rSlc G) := by
  intro pins s σ H x v vl vu lo hi sl Q I rx hs pl pu h
  obtain ⟨ι, S, d1, d, sr, r1, e, c⟩ := h
  cases h1 : deref S d1 with
  | tup xs =>
    rw [h1] at e
    simp only [slc, Option.some.injEq] at e
    subst e
    obtain ⟨a, vs, rfl, t, z, q⟩ := view_tup sr r1 h1
    refine sl_tupA pins s σ H _ v vl vu lo hi sl Q I rx hs pl pu ⟨a, vs, rfl, hK ▸ t.sq, fun hw => ?_, fun hw p hp => ?_⟩
    · rw [cut_all (by rw [q.length]; exact hw.1) (by rw [q.length]; exact hw.2)] at c
      exact c.here sr (.tup t z q)
    · exact c.tup sr (cut_reps q lo hi) (Nat.le_trans (cutV_length _ _ _) z) hp
  | lst xs =>
    rw [h1] at e
    simp only [slc, Option.some.injEq] at e
    subst e
    obtain ⟨a, vs, rfl, t, z, q⟩ := view_lst sr r1 h1
    exact sl_list pins s σ H _ v vl vu lo hi sl Q I rx hs pl pu ⟨a, vs, rfl, .inl t, fun p hp => c.lst sr (cut_reps q lo hi) (Nat.le_trans (cutV_length _ _ _) z) hp⟩
  | inp xs =>
    rw [h1] at e
    simp only [slc, Option.some.injEq] at e
    subst e
    obtain ⟨a, vs, rfl, t, z, q⟩ := view_inp r1 h1
    exact sl_list pins s σ H _ v vl vu lo hi sl Q I rx hs pl pu ⟨a, vs, rfl, hK ▸ t.sq, fun p hp => c.lst sr (cut_reps q lo hi) (Nat.le_trans (cutV_length _ _ _) z) hp⟩
  | str x =>
    rw [h1] at e
    simp only [slc, Option.some.injEq] at e
    subst e
    obtain ⟨rfl, hz⟩ := view_str r1 h1
    have e2 : (⟨(cut x.cps.toList lo hi).toArray⟩ : Str) = cutS x lo hi := by
      unfold cut cutS
      rw [Array.length_toList]
      rfl
    rw [e2] at c
    refine sl_str pins s σ H _ v vl vu lo hi sl Q I rx hs pl pu ⟨x, rfl, hz.2, c.here sr (.str _ ⟨?_, Nat.le_trans (cutS_length x _ _) hz.2⟩)⟩
    unfold cutS PyData.strOk
    rw [List.all_toArray, List.all_eq_true]
    intro y hy
    have hm : y ∈ x.cps.toList := List.mem_of_mem_drop (List.mem_of_mem_take hy)
    exact Array.all_eq_true_iff_forall_mem.mp hz.1 y (by simpa using hm)
  | _ => rw [h1] at e; simp [slc] at e

/-! ### one place -/
theorem un_ok {op : U1} {o : UnaryOp} {g : Int → Int} (hop : UnR X (unaryOp o) (rU fun i => .int (g i))) (hb : ∀ x d, un op x = some d → ∃ i, x = .int i ∧ d = .int (g i)) :
    UnR X (unaryOp o) (fun x H Q => ∃ ι S d1 d, SR G ι S H ∧ Rep G ι H d1 x ∧ un op d1 = some d ∧ Cont G ι H S d Q) := by
  intro pins s σ H x v Q I rx ⟨ι, S, d1, d, sr, r1, e, c⟩
  obtain ⟨i, rfl, rfl⟩ := hb _ _ e
  cases r1
  exact hop pins s σ H _ v Q I rx ⟨i, rfl, c.here sr (.int _)⟩

/-! ### built-in functions -/
def rP (G : Cn) (p : Prim) : List V → Hp → VK → Prop := fun xs H Q => ∃ ι S ds d, SR G ι S H ∧ Reps G ι H ds xs ∧ prim p (ds.map (deref S)) = some d ∧ Cont G ι H S d Q
theorem one {ι : List Addr} {H : Hp} {ds : List D} {xs : List V} {S : Store} {d : D} (r : Reps G ι H ds xs) (e : ds.map (deref S) = [d]) : ∃ d0 x, ds = [d0] ∧ xs = [x] ∧ Rep G ι H d0 x ∧ deref S d0 = d := by
  cases r with
  | nil => simp at e
  | cons h t =>
    cases t with
    | nil => simp at e; exact ⟨_, _, rfl, rfl, h, e⟩
    | cons _ _ => simp at e
theorem two {ι : List Addr} {H : Hp} {ds : List D} {xs : List V} {S : Store} {d d' : D} (r : Reps G ι H ds xs) (e : ds.map (deref S) = [d, d']) : ∃ d0 d1 x y, ds = [d0, d1] ∧ xs = [x, y] ∧ Rep G ι H d0 x ∧ deref S d0 = d ∧ Rep G ι H d1 y ∧ deref S d1 = d' := by
  cases r with
  | nil => simp at e
  | cons h t =>
    cases t with
    | nil => simp at e
    | cons h' t' =>
      cases t' with
      | nil => simp at e; exact ⟨_, _, _, _, rfl, rfl, h, e.1, h', e.2⟩
      | cons _ _ => simp at e
theorem len_ok (hK : X.K = G.K) : CallR X (.builtin "len") (rP G .len) := by
  intro pins s σ H xs us Q I r ⟨ι, S, ds, d, sr, rr, e, c⟩
  cases hd : ds.map (deref S) with
  | nil => rw [hd] at e; simp [prim] at e
  | cons d0 dr =>
    rw [hd] at e
    cases dr with
    | cons _ _ => cases d0 <;> simp [prim] at e
    | nil =>
      obtain ⟨a, x, rfl, rfl, r1, e1⟩ := one rr hd
      cases d0 with
      | str z =>
        simp only [prim, Option.some.injEq] at e
        subst e
        obtain ⟨rfl, hz⟩ := view_str r1 e1
        exact call_len_str pins s σ H _ us Q I r ⟨z, rfl, hz.2, c.here sr (.int _)⟩
      | tup xs =>
        simp only [prim, Option.some.injEq] at e
        subst e
        obtain ⟨a, vs, rfl, t, z, q⟩ := view_tup sr r1 e1
        rw [q.length] at c
        exact call_len_seq pins s σ H _ us Q I r ⟨a, vs, rfl, .inr (hK ▸ t.sq), c.here sr (.int _)⟩
      | lst xs =>
        simp only [prim, Option.some.injEq] at e
        subst e
        obtain ⟨a, vs, rfl, t, z, q⟩ := view_lst sr r1 e1
        rw [q.length] at c
        exact call_len_seq pins s σ H _ us Q I r ⟨a, vs, rfl, .inl (.inl t), c.here sr (.int _)⟩
      | dic kvs =>
        simp only [prim, Option.some.injEq] at e
        subst e
        obtain ⟨a, vs, rfl, t, z, q⟩ := view_dic sr r1 e1
        rw [q.length] at c
        exact call_lenD pins s σ H _ us Q I r ⟨a, vs, rfl, t, c.here sr (.int _)⟩
      | _ => simp [prim] at e
theorem int_ok : CallR X (.type "int") (rP G .int) := by
  intro pins s σ H xs us Q I r ⟨ι, S, ds, d, sr, rr, e, c⟩
  cases hd : ds.map (deref S) with
  | nil => rw [hd] at e; simp [prim] at e
  | cons d0 dr =>
    rw [hd] at e
    cases dr with
    | cons _ _ => cases d0 <;> simp [prim] at e
    | nil =>
      obtain ⟨a, x, rfl, rfl, r1, e1⟩ := one rr hd
      cases d0 with
      | int i =>
        simp only [prim, Option.some.injEq] at e
        subst e
        rw [view_int r1 e1] at r
        rw [view_int r1 e1] at rr
        exact call_int1 pins s σ H _ us Q I r (.inl ⟨i, rfl, c.here sr (.int _)⟩)
      | bl b =>
        simp only [prim, Option.some.injEq] at e
        subst e
        rw [view_bl r1 e1] at r
        exact call_int1 pins s σ H _ us Q I r (.inr ⟨b, rfl, c.here sr (.int _)⟩)
      | _ => simp [prim] at e
theorem abs_ok : CallR X (.builtin "abs") (rP G .abs) := by
  intro pins s σ H xs us Q I r ⟨ι, S, ds, d, sr, rr, e, c⟩
  cases hd : ds.map (deref S) with
  | nil => rw [hd] at e; simp [prim] at e
  | cons d0 dr =>
    rw [hd] at e
    cases dr with
    | cons _ _ => cases d0 <;> simp [prim] at e
    | nil =>
      obtain ⟨a, x, rfl, rfl, r1, e1⟩ := one rr hd
      cases d0 with
      | int i =>
        simp only [prim, Option.some.injEq] at e
        subst e
        rw [view_int r1 e1] at r
        exact call_abs pins s σ H _ us Q I r ⟨i, rfl, c.here sr (.int _)⟩
      | _ => simp [prim] at e
theorem boolsOf_reps {ι : List Addr} {H : Hp} : ∀ {ds : List D} {vs : List V} {bs : List Bool}, Reps G ι H ds vs → boolsOf ds = some bs → vs = bs.map V.bl
  | [], _, bs, .nil, e => by simp [boolsOf] at e; subst e; rfl
  | d :: ds, _, bs, .cons h t, e => by
    cases d <;> simp [boolsOf] at e
    obtain ⟨cs, e, rfl⟩ := e
    cases h
    rw [boolsOf_reps t e, List.map_cons]
theorem intsOf_reps {ι : List Addr} {H : Hp} : ∀ {ds : List D} {vs : List V} {bs : List Int}, Reps G ι H ds vs → intsOf ds = some bs → vs = bs.map V.int
  | [], _, bs, .nil, e => by simp [intsOf] at e; subst e; rfl
  | d :: ds, _, bs, .cons h t, e => by
    cases d <;> simp [intsOf] at e
    obtain ⟨cs, e, rfl⟩ := e
    cases h
    rw [intsOf_reps t e, List.map_cons]
theorem all_ok (hc : X.calm = true) : CallR X (.builtin "all") (rP G .all) := by
  intro pins s σ H xs us Q I r ⟨ι, S, ds, d, sr, rr, e, c⟩
  cases hd : ds.map (deref S) with
  | nil => rw [hd] at e; simp [prim] at e
  | cons d0 dr =>
    rw [hd] at e
    cases dr with
    | cons _ _ => cases d0 <;> simp [prim] at e
    | nil =>
      obtain ⟨a, x, rfl, rfl, r1, e1⟩ := one rr hd
      cases d0 with
      | lst xs =>
        simp only [prim] at e
        cases hb : boolsOf xs with
        | none => rw [hb] at e; cases e
        | some bs =>
          rw [hb] at e
          simp only [Option.map_some, Option.some.injEq] at e
          subst e
          obtain ⟨a, vs, rfl, t, z, q⟩ := view_lst sr r1 e1
          rw [boolsOf_reps q hb] at t
          exact cr_all hc pins s σ H _ us Q I r ⟨a, bs, rfl, .inl t, c.here sr (.bl _)⟩
      | _ => simp [prim] at e
theorem any_ok (hc : X.calm = true) : CallR X (.builtin "any") (rP G .any) := by
  intro pins s σ H xs us Q I r ⟨ι, S, ds, d, sr, rr, e, c⟩
  cases hd : ds.map (deref S) with
  | nil => rw [hd] at e; simp [prim] at e
  | cons d0 dr =>
    rw [hd] at e
    cases dr with
    | cons _ _ => cases d0 <;> simp [prim] at e
    | nil =>
      obtain ⟨a, x, rfl, rfl, r1, e1⟩ := one rr hd
      cases d0 with
      | lst xs =>
        simp only [prim] at e
        cases hb : boolsOf xs with
        | none => rw [hb] at e; cases e
        | some bs =>
          rw [hb] at e
          simp only [Option.map_some, Option.some.injEq] at e
          subst e
          obtain ⟨a, vs, rfl, t, z, q⟩ := view_lst sr r1 e1
          rw [boolsOf_reps q hb] at t
          exact cr_any hc pins s σ H _ us Q I r ⟨a, bs, rfl, .inl t, c.here sr (.bl _)⟩
      | _ => simp [prim] at e
theorem sum_ok (hc : X.calm = true) : CallR X (.builtin "sum") (rP G .sum) := by
  intro pins s σ H xs us Q I r ⟨ι, S, ds, d, sr, rr, e, c⟩
  cases hd : ds.map (deref S) with
  | nil => rw [hd] at e; simp [prim] at e
  | cons d0 dr =>
    rw [hd] at e
    cases dr with
    | cons _ _ => cases d0 <;> simp [prim] at e
    | nil =>
      obtain ⟨a, x, rfl, rfl, r1, e1⟩ := one rr hd
      cases d0 with
      | lst xs =>
        simp only [prim] at e
        cases hb : intsOf xs with
        | none => rw [hb] at e; cases e
        | some bs =>
          rw [hb] at e
          simp only [Option.map_some, Option.some.injEq] at e
          subst e
          obtain ⟨a, vs, rfl, t, z, q⟩ := view_lst sr r1 e1
          rw [intsOf_reps q hb] at t
          exact cr_sum hc pins s σ H _ us Q I r ⟨a, bs, rfl, .inl t, c.here sr (.int _)⟩
      | _ => simp [prim] at e
theorem foldMax : ∀ (r : List Int) (x : Int), (r.foldl (fun a b => if b > a then b else a) x = x ∨ r.foldl (fun a b => if b > a then b else a) x ∈ r) ∧ x ≤ r.foldl (fun a b => if b > a then b else a) x ∧ ∀ y ∈ r, y ≤ r.foldl (fun a b => if b > a then b else a) x
  | [], x => by simp
  | y :: r, x => by
    rw [List.foldl_cons]
    obtain ⟨h1, h2, h3⟩ := foldMax r (if y > x then y else x)
    have hxy : x ≤ (if y > x then y else x) ∧ y ≤ (if y > x then y else x) := by split <;> omega
    refine ⟨?_, by omega, fun z hz => ?_⟩
    · rcases h1 with h1 | h1
      · rw [h1]
        by_cases hy : y > x
        · rw [if_pos hy]; exact .inr (List.mem_cons_self ..)
        · rw [if_neg hy]; exact .inl rfl
      · exact .inr (List.mem_cons_of_mem _ h1)
    · rcases List.mem_cons.mp hz with rfl | hz
      · omega
      · exact h3 z hz
theorem max1_ok (hc : X.calm = true) : CallR X (.builtin "max") (rP G .max1) := by
  intro pins s σ H xs us Q I r ⟨ι, S, ds, d, sr, rr, e, c⟩
  cases hd : ds.map (deref S) with
  | nil => rw [hd] at e; simp [prim] at e
  | cons d0 dr =>
    rw [hd] at e
    cases dr with
    | cons _ _ => cases d0 <;> simp [prim] at e
    | nil =>
      obtain ⟨a, x, rfl, rfl, r1, e1⟩ := one rr hd
      cases d0 with
      | lst xs =>
        simp only [prim] at e
        cases hb : intsOf xs with
        | none => rw [hb] at e; cases e
        | some bs =>
          rw [hb] at e
          cases bs with
          | nil => simp [maxI] at e
          | cons b bs =>
            simp only [Option.bind_some, maxI, Option.map_some, Option.some.injEq] at e
            subst e
            obtain ⟨a, vs, rfl, t, z, q⟩ := view_lst sr r1 e1
            rw [intsOf_reps q hb] at t
            obtain ⟨f1, f2, f3⟩ := foldMax bs b
            refine cr_max hc pins s σ H _ us Q I r ⟨a, b :: bs, rfl, .inl t, by simp, fun m hm hle => ?_⟩
            have em : m = bs.foldl (fun a b => if b > a then b else a) b := by
              have h1 : bs.foldl (fun a b => if b > a then b else a) b ≤ m := hle _ (by
                rcases f1 with f1 | f1
                · rw [f1]; exact List.mem_cons_self ..
                · exact List.mem_cons_of_mem _ f1)
              have h2 : m ≤ bs.foldl (fun a b => if b > a then b else a) b := by
                rcases List.mem_cons.mp hm with rfl | hm
                · exact f2
                · exact f3 m hm
              omega
            rw [em]
            exact c.here sr (.int _)
      | _ => simp [prim] at e
theorem max2_ok (hc : X.calm = true) : CallR X (.builtin "max") (rP G .max2) := by
  intro pins s σ H xs us Q I r ⟨ι, S, ds, d, sr, rr, e, c⟩
  cases hd : ds.map (deref S) with
  | nil => rw [hd] at e; simp [prim] at e
  | cons d0 dr =>
    rw [hd] at e
    cases dr with
    | nil => cases d0 <;> simp [prim] at e
    | cons d1 dr =>
      cases dr with
      | cons _ _ => cases d0 <;> simp [prim] at e
      | nil =>
        obtain ⟨a, b, x, y, rfl, rfl, r1, e1, r2, e2⟩ := two rr hd
        cases d0 with
        | int i =>
          cases d1 with
          | int j =>
            simp only [prim, Option.some.injEq] at e
            subst e
            rw [view_int r1 e1, view_int r2 e2] at r
            exact call_max2 hc pins s σ H _ us Q I r ⟨i, j, rfl, c.here sr (.int _)⟩
          | _ => simp [prim] at e
        | _ => simp [prim] at e
theorem tuple_ok (hK : X.K = G.K) : CallR X (.type "tuple") (rP G .tuple) := by
  intro pins s σ H xs us Q I r ⟨ι, S, ds, d, sr, rr, e, c⟩
  cases hd : ds.map (deref S) with
  | nil => rw [hd] at e; simp [prim] at e
  | cons d0 dr =>
    rw [hd] at e
    cases dr with
    | cons _ _ => cases d0 <;> simp [prim] at e
    | nil =>
      obtain ⟨a, x, rfl, rfl, r1, e1⟩ := one rr hd
      cases d0 with
      | tup xs =>
        simp only [prim, Option.some.injEq] at e
        subst e
        obtain ⟨a, vs, rfl, t, z, q⟩ := view_tup sr r1 e1
        exact call_tuple_of pins s σ H _ us Q I r ⟨a, vs, rfl, .inr ⟨hK ▸ t.sq, c.here sr (.tup t z q)⟩⟩
      | lst xs =>
        simp only [prim, Option.some.injEq] at e
        subst e
        obtain ⟨a, vs, rfl, t, z, q⟩ := view_lst sr r1 e1
        exact call_tuple_of pins s σ H _ us Q I r ⟨a, vs, rfl, .inl ⟨.inl t, fun l hl => c.tup sr q z hl⟩⟩
      | _ => simp [prim] at e
theorem list_ok (hK : X.K = G.K) : CallR X (.type "list") (rP G .list) := by
  intro pins s σ H xs us Q I r ⟨ι, S, ds, d, sr, rr, e, c⟩
  cases hd : ds.map (deref S) with
  | nil => rw [hd] at e; simp [prim] at e
  | cons d0 dr =>
    rw [hd] at e
    cases dr with
    | cons _ _ => cases d0 <;> simp [prim] at e
    | nil =>
      obtain ⟨a, x, rfl, rfl, r1, e1⟩ := one rr hd
      cases d0 with
      | tup xs =>
        simp only [prim, Option.some.injEq] at e
        subst e
        obtain ⟨a, vs, rfl, t, z, q⟩ := view_tup sr r1 e1
        exact call_list_of pins s σ H _ us Q I r ⟨a, vs, rfl, .inr (hK ▸ t.sq), fun l hl => c.lst sr q z hl⟩
      | lst xs =>
        simp only [prim, Option.some.injEq] at e
        subst e
        obtain ⟨a, vs, rfl, t, z, q⟩ := view_lst sr r1 e1
        exact call_list_of pins s σ H _ us Q I r ⟨a, vs, rfl, .inl (.inl t), fun l hl => c.lst sr q z hl⟩
      | _ => simp [prim] at e
theorem strG_nums : ∀ n : Nat, n < 1000 → StrG (toString (n : Int) : String) := by
  have : ∀ n : Fin 1000, PyData.strOk (Str.ofString (toString ((n : Nat) : Int))) = true ∧ (Str.ofString (toString ((n : Nat) : Int))).length ≤ 20 := by decide +kernel
  intro n hn
  exact ⟨(this ⟨n, hn⟩).1, Nat.le_trans (this ⟨n, hn⟩).2 (by decide)⟩
theorem str_ok : CallR X (.type "str") (rP G .str) := by
  intro pins s σ H xs us Q I r ⟨ι, S, ds, d, sr, rr, e, c⟩
  cases hd : ds.map (deref S) with
  | nil => rw [hd] at e; simp [prim] at e
  | cons d0 dr =>
    rw [hd] at e
    cases dr with
    | cons _ _ => cases d0 <;> simp [prim] at e
    | nil =>
      obtain ⟨a, x, rfl, rfl, r1, e1⟩ := one rr hd
      cases d0 with
      | int i =>
        simp only [prim] at e
        split at e
        · rename_i hc
          simp only [Bool.and_eq_true, decide_eq_true_eq] at hc
          simp only [Option.some.injEq] at e
          subst e
          rw [view_int r1 e1] at r
          have hn := strG_nums i.toNat (by omega)
          have ei : ((i.toNat : Nat) : Int) = i := by omega
          rw [ei] at hn
          refine call_str_int pins s σ H _ us Q I r ⟨i, rfl, ?_, c.here sr (.str _ hn)⟩
          have : i.natAbs < 2 ^ 1920 := Nat.lt_of_lt_of_le (show i.natAbs < 1000 by omega) (by decide)
          by_cases hz : i.natAbs = 0
          · rw [hz]; decide
          · exact (Nat.log2_lt hz).mpr this
        · cases e
      | _ => simp [prim] at e
end
end Fw
end
section
set_option Elab.async false
set_option linter.all false
set_option autoImplicit false
set_option maxRecDepth 100000
set_option maxHeartbeats 4000000
/-! Fw6: sorted. -/
namespace Fw
open PySem PySem.Spec PyProof.Rows L2
section
variable {X : Cx} {G : Cn}
open PySem.W in
theorem each_of {ι : List Addr} {H : Hp} {R : Value → D → Prop} : ∀ {ds : List D} {vs : List V} {us : List Value}, Reps G ι H ds vs → L2.Vals vs us → (∀ d v u, d ∈ ds → Rep G ι H d v → L2.RelV v u → R u d) → EachIs R us ds
  | [], _, _, .nil, r, f => by cases r; exact .nil
  | d :: ds, _, _, .cons h t, r, f => by
    cases r with
    | cons r1 r2 => exact .cons (f d _ _ (List.mem_cons_self ..) h r1) (each_of t r2 fun d' v u hd => f d' v u (List.mem_cons_of_mem _ hd))
open PySem.W in
theorem of_each {ι : List Addr} {H : Hp} : ∀ {ds : List D} {us : List Value}, EachIs (fun u d => ∃ x, L2.RelV x u ∧ Rep G ι H d x) us ds → ∃ vs, L2.Vals vs us ∧ Reps G ι H ds vs
  | [], _, .nil => ⟨[], .nil, .nil⟩
  | d :: ds, _, .cons ⟨x, r, h⟩ t => by
    obtain ⟨vs, r', h'⟩ := of_each t
    exact ⟨x :: vs, .cons r r', .cons h h'⟩
theorem depthAll_le : ∀ {xs : List D} {d : D}, d ∈ xs → d.py.depth ≤ PyData.depthAll (D.pys xs)
  | x :: xs, d, h => by
    rw [D.pys, PyData.depthAll]
    rcases List.mem_cons.mp h with rfl | h
    · exact Nat.le_max_left _ _
    · exact Nat.le_trans (depthAll_le h) (Nat.le_max_right _ _)
open PySem.W in
theorem sorted_ok (hK : X.K = G.K) (hu : X.A.units + 80 < cLine) : CallR X (.builtin "sorted") (rP G .sorted) := by
  intro pins s σ H xs us Q I r ⟨ι, S, ds, d, sr, rr, e, c⟩
  cases hd : ds.map (deref S) with
  | nil => rw [hd] at e; simp [prim] at e
  | cons d0 dr =>
    rw [hd] at e
    cases dr with
    | cons _ _ => cases d0 <;> simp [prim] at e
    | nil =>
      obtain ⟨a, x, rfl, rfl, r1, e1⟩ := one rr hd
      cases d0 with
      | lst xs =>
        simp only [prim, sortD] at e
        split at e
        · rename_i hc
          simp only [Bool.and_eq_true, Bool.or_eq_true, decide_eq_true_eq] at hc
          obtain ⟨⟨⟨c1, c2⟩, c3⟩, c4⟩ := hc
          simp only [Option.map_some, Option.some.injEq] at e
          subst e
          obtain ⟨a, vs, rfl, t, z, q⟩ := view_lst sr r1 e1
          obtain ⟨its, rv, hl, hz⟩ := I.list (.inl t : SqL X.K H a vs)
          rw [Vals.ref1 r]
          have isp : ∀ d ∈ xs, d.isPy = true := by
            rw [D.isPys_all] at c1
            exact fun d hd => List.all_eq_true.mp c1 d hd
          have hdep : ∀ d ∈ xs, d.py.depth ≤ 63 := fun d hd => by
            have := depthAll_le hd
            unfold D.dep at c2
            rw [D.py, PyData.depth] at c2
            omega
          have e0 : EachIs (fun u d => ∃ x, L2.RelV x u ∧ Rep G ι H d x) its xs := each_of q rv fun d v u _ h1 h2 => ⟨v, h2, h1⟩
          have er : EachIs (fun u d => ∃ as, Reads s.heap u (D.py d) as) its xs := each_of q rv fun d v u hm h1 h2 => Dp.reads I _ v u (hK ▸ (h1.dp (isp d hm)).1) h2
          have er' : EachIs (fun u d => ∃ as, Reads (sortingHeap (copyHeap s.heap its) (s.heap.objs.size + 1) its) u (D.py d) as) its xs := er.mono fun _ _ ⟨as, r⟩ => ⟨as, PyProof.Rows.Reads.keeps (fun _ _ => sorting_copy_old) r⟩
          have hal : AllAlike (xs.map D.py) := fun d hd d' hd' => by
            obtain ⟨p, hp, rfl⟩ := List.mem_map.mp hd
            obtain ⟨p', hp', rfl⟩ := List.mem_map.mp hd'
            exact List.all_eq_true.mp (List.all_eq_true.mp c3 p hp) p' hp'
          have hb : ∀ d, d ∈ xs.map D.py → X.A.in1.in1.units + d.depth < cLine := fun d hd => by
            obtain ⟨p, hp, rfl⟩ := List.mem_map.mp hd
            have := hdep p hp
            show X.A.units + 1 + 1 + _ < _
            omega
          have SA : SortsAt X.prog X.w X.A.in1.in1 { s with heap := sortingHeap (copyHeap s.heap its) (s.heap.objs.size + 1) its } (dataKind (sortingHeap (copyHeap s.heap its) (s.heap.objs.size + 1) its) (xs.map D.py)) its := by
            have em := each_map (R := fun v d => ∃ as, Reads (sortingHeap (copyHeap s.heap its) (s.heap.objs.size + 1) its) v d as) D.py er'
            rcases c4 with (c4 | c4) | c4
            · refine SortsAt.data (s := { s with heap := sortingHeap (copyHeap s.heap its) (s.heap.objs.size + 1) its }) em hal (.inr fun d hd => ?_) hb
              obtain ⟨p, hp, rfl⟩ := List.mem_map.mp hd
              have := List.all_eq_true.mp c4 p hp
              cases p <;> simp [isStr] at this
              exact ⟨by simp [D.py], fun xs => by simp [D.py]⟩
            · refine SortsAt.data (s := { s with heap := sortingHeap (copyHeap s.heap its) (s.heap.objs.size + 1) its }) em hal (.inr fun d hd => ?_) hb
              obtain ⟨p, hp, rfl⟩ := List.mem_map.mp hd
              have := List.all_eq_true.mp c4 p hp
              cases p <;> simp [isInt] at this
              exact ⟨by simp [D.py], fun xs => by simp [D.py]⟩
            · refine sortsAt_tups (s := { s with heap := sortingHeap (copyHeap s.heap its) (s.heap.objs.size + 1) its }) em hal (fun d hd => ?_) hb
              obtain ⟨p, hp, rfl⟩ := List.mem_map.mp hd
              have := List.all_eq_true.mp c4 p hp
              cases p <;> simp [isTup] at this
              exact ⟨_, by rw [D.py]⟩
          have hil : its.length ≤ sizeLine := by rw [← rv.length]; exact hz
          refine sorted_vals hl.isList SA hil ?_
          have hout := sortVals_data (R := fun u d => ∃ x, L2.RelV x u ∧ Rep G ι H d x) (enc := D.py) false e0 er' hal
          obtain ⟨ws, rw1, rw2⟩ := of_each hout
          have hle : xs.mergeSort dle = xs.mergeSort (dataLe false D.py) := rfl
          rw [hle] at c
          obtain ⟨ep, he'⟩ := PyProof.Rows.sortedAll_at s.heap its (sortVals (dataKind (sortingHeap (copyHeap s.heap its) (s.heap.objs.size + 1) its) (xs.map D.py)) false its its).toArray
          have hwl : ws.length ≤ sizeLine := by
            have h1 := rw2.length
            rw [List.length_mergeSort] at h1
            have h2 := q.length
            omega
          refine ⟨.ref _, upd H (s.heap.objs.size + 1) (.lst ws), I.laid (t' := s.toks) (fun _ _ => PyProof.Rows.sortedAll_old) (Nat.le_succ _) ⟨hwl, _, ep, rw1, he'⟩, rfl, c.lst sr rw2 hwl (I.hok.fresh (Nat.le_succ _))⟩
        · cases e
      | _ => simp [prim] at e
end
end Fw
end
section
set_option Elab.async false
set_option linter.all false
set_option autoImplicit false
set_option maxRecDepth 100000
set_option maxHeartbeats 4000000
/-! Fw7: readings of expressions. -/
namespace Fw
open PySem PySem.Spec PyProof.Rows L2
abbrev EF := Ev → Store → Option (D × Store)
abbrev AF := Ev → Store → Option (List D × Store)
/-- the reading: what f says of the slots and cells -/
def rd (G : Cn) (f : EF) : TE := fun σ H Q => ∃ ι e S d S', EnvR G ι H e σ ∧ SR G ι S H ∧ f e S = some (d, S') ∧ Cont G ι H S' d Q
def rdA (G : Cn) (f : AF) : TA := fun σ H Q => ∃ ι e S ds S', EnvR G ι H e σ ∧ SR G ι S H ∧ f e S = some (ds, S') ∧ ∀ vs H' ι', Ext ι H ι' H' → SR G ι' S' H' → Reps G ι' H' ds vs → Q vs H'
def rdT (G : Cn) (f : EF) : TT := fun σ H Q => ∃ ι e S b S', EnvR G ι H e σ ∧ SR G ι S H ∧ f e S = some (.bl b, S') ∧ ∀ H' ι', Ext ι H ι' H' → SR G ι' S' H' → Q b H'
section
variable {X : Cx} {G : Cn} {e a b c o i : Expr} {es : List Expr} {f fa fb fc : EF} {fs : AF} {t : TE} {pos p2 : Pos}
theorem PE.mono {t t' : TE} (h : PE X e t) (w : ∀ σ H Q, t' σ H Q → t σ H Q) : PE X e t' := ⟨fun pins s σ H Q I q => h.run pins s σ H Q I (w σ H Q q)⟩
theorem PE.pick {t' : TE} (w : ∀ σ H Q, t' σ H Q → ∃ t, PE X e t ∧ t σ H Q) : PE X e t' := ⟨fun pins s σ H Q I q => let ⟨_, h, q'⟩ := w σ H Q q; h.run pins s σ H Q I q'⟩
theorem PT.mono {t t' : TT} (h : PT X e t) (w : ∀ σ H Q, t' σ H Q → t σ H Q) : PT X e t' := ⟨fun pins s σ H Q I q => h.run pins s σ H Q I (w σ H Q q)⟩
theorem PW.mono {t t' : TT} (h : PW X e t) (w : ∀ σ H Q, t' σ H Q → t σ H Q) : PW X e t' := ⟨fun wh pins s σ H Q I q => h.run wh pins s σ H Q I (w σ H Q q)⟩
theorem PA.mono {t t' : TA} (h : PA X es t) (w : ∀ σ H Q, t' σ H Q → t σ H Q) : PA X es t' := ⟨fun ps pins s σ H Q I q => h.run ps pins s σ H Q I (w σ H Q q)⟩

abbrev Sd (G : Cn) (X : Cx) (e : Expr) (f : EF) : Prop := PE X e (rd G f)
abbrev Sda (G : Cn) (X : Cx) (es : List Expr) (f : AF) : Prop := PA X es (rdA G f)
abbrev Sdt (G : Cn) (X : Cx) (e : Expr) (f : EF) : Prop := PT X e (rdT G f)
abbrev Sdw (G : Cn) (X : Cx) (e : Expr) (f : EF) : Prop := PW X e (rdT G f)

/-- a datum that stands by itself -/
theorem sd_cst {d : D} {v : V} (h : PE X e (tC v)) (hr : ∀ ι H, Rep G ι H d v) : Sd G X e (fun _ S => some (d, S)) := PE.mono h fun σ H Q ⟨ι, en, S, d', S', er, sr, hf, c⟩ => by
  simp only [Option.some.injEq, Prod.mk.injEq] at hf
  obtain ⟨rfl, rfl⟩ := hf
  exact c.here sr (hr ι H)
theorem sd_var {i : Nat} (h : PE X e (tVar i)) : Sd G X e (fun σ S => (getV σ i).map (·, S)) := PE.mono h fun σ H Q ⟨ι, en, S, d', S', er, sr, hf, c⟩ => by
  obtain ⟨d, hg, hf⟩ := Option.map_eq_some_iff.mp hf
  simp only [Prod.mk.injEq] at hf
  obtain ⟨rfl, rfl⟩ := hf
  unfold getV at hg
  rw [Option.join_eq_some_iff] at hg
  obtain ⟨v, hv, r⟩ := er.at_ i d hg
  exact ⟨v, hv, c.here sr r⟩

theorem bind_some {α β : Type} {x : Option α} {f : α → Option β} {y : β} (h : x.bind f = some y) : ∃ a, x = some a ∧ f a = some y := Option.bind_eq_some_iff.mp h
theorem map_some' {α β : Type} {x : Option α} {f : α → β} {y : β} (h : x.map f = some y) : ∃ a, x = some a ∧ f a = y := Option.map_eq_some_iff.mp h

theorem sd_op {op : B2} {o : Operator} (ho : OpR X (binaryOp o) (rB G op)) (ha : Sd G X a fa) (hb : Sd G X b fb) :
    Sd G X (.BinOp a o b pos) (fun σ S => (fa σ S).bind fun r => (fb σ r.2).bind fun q => (bin op (deref q.2 r.1) (deref q.2 q.1)).map (·, q.2)) :=
  PE.mono (pe_op ho ha hb) fun σ H Q ⟨ι, en, S, d, S', er, sr, hf, c⟩ => by
    obtain ⟨⟨x, S1⟩, h1, hf⟩ := bind_some hf
    obtain ⟨⟨y, S2⟩, h2, hf⟩ := bind_some hf
    obtain ⟨z, h3, hf⟩ := map_some' hf
    simp only [Prod.mk.injEq] at hf
    obtain ⟨rfl, rfl⟩ := hf
    refine ⟨ι, en, S, x, S1, er, sr, h1, fun v H1 ι1 x1 sr1 r1 => ?_⟩
    refine ⟨ι1, en, S1, y, S2, er.ext x1, sr1, h2, fun u H2 ι2 x2 sr2 r2 => ?_⟩
    exact ⟨ι2, S2, x, y, z, sr2, r1.ext x2, r2, h3, fun w H3 ι3 x3 sr3 r3 => c w H3 ι3 ((x1.trans x2).trans x3) sr3 r3⟩
theorem cmp_wish {op : B2} {σ : L2.St} {H : Hp} {Q : VK} (h : rd G (fun σ S => (fa σ S).bind fun r => (fb σ r.2).bind fun q => (bin op (deref q.2 r.1) (deref q.2 q.1)).map (·, q.2)) σ H Q) : tOp (rB G op) (rd G fa) (rd G fb) σ H Q := by
  obtain ⟨ι, en, S, d, S', er, sr, hf, c⟩ := h
  obtain ⟨⟨x, S1⟩, h1, hf⟩ := bind_some hf
  obtain ⟨⟨y, S2⟩, h2, hf⟩ := bind_some hf
  obtain ⟨z, h3, hf⟩ := map_some' hf
  simp only [Prod.mk.injEq] at hf
  obtain ⟨rfl, rfl⟩ := hf
  refine ⟨ι, en, S, x, S1, er, sr, h1, fun v H1 ι1 x1 sr1 r1 => ?_⟩
  refine ⟨ι1, en, S1, y, S2, er.ext x1, sr1, h2, fun u H2 ι2 x2 sr2 r2 => ?_⟩
  exact ⟨ι2, S2, x, y, z, sr2, r1.ext x2, r2, h3, fun w H3 ι3 x3 sr3 r3 => c w H3 ι3 ((x1.trans x2).trans x3) sr3 r3⟩
/-- a test's wish as a value's -/
theorem rdT_rd {σ : L2.St} {H : Hp} {Q : Bool → Hp → Prop} (h : rdT G f σ H Q) : rd G f σ H (fun v H' => ∃ k, v = .bl k ∧ Q k H') := by
  obtain ⟨ι, en, S, b, S', er, sr, hf, c⟩ := h
  refine ⟨ι, en, S, .bl b, S', er, sr, hf, fun v H' ι' x sr' r => ?_⟩
  cases r
  exact ⟨b, rfl, c H' ι' x sr'⟩
theorem sd_cmp {op : B2} {o : CmpOp} (ho : OpR X (compareOp o) (rB G op)) (ha : Sd G X a fa) (hb : Sd G X b fb) (hm : behindInMarks o b = false) :
    Sd G X (.Compare a [o] [b] pos) (fun σ S => (fa σ S).bind fun r => (fb σ r.2).bind fun q => (bin op (deref q.2 r.1) (deref q.2 q.1)).map (·, q.2)) ∧
    Sdt G X (.Compare a [o] [b] pos) (fun σ S => (fa σ S).bind fun r => (fb σ r.2).bind fun q => (bin op (deref q.2 r.1) (deref q.2 q.1)).map (·, q.2)) :=
  ⟨PE.mono (pe_cmpR ho ha hb hm) fun σ H Q h => cmp_wish h, PT.mono (pt_cmpR ho ha hb hm) fun σ H Q h => cmp_wish (rdT_rd h)⟩
theorem sd_isN {j : Nat} (ha : Sd G X a fa) : Sd G X (.Compare a [.Is] [.Constant .none j p2] pos) (fun σ S => (fa σ S).bind fun r => (un .isN r.1).map (·, r.2)) ∧
    Sdt G X (.Compare a [.Is] [.Constant .none j p2] pos) (fun σ S => (fa σ S).bind fun r => (un .isN r.1).map (·, r.2)) := by
  have key : ∀ σ H Q, rd G (fun σ S => (fa σ S).bind fun r => (un .isN r.1).map (·, r.2)) σ H Q → tIsN (rd G fa) σ H Q := fun σ H Q ⟨ι, en, S, d, S', er, sr, hf, c⟩ => by
    obtain ⟨⟨x, S1⟩, h1, hf⟩ := bind_some hf
    obtain ⟨z, h3, hf⟩ := map_some' hf
    simp only [Prod.mk.injEq] at hf
    obtain ⟨rfl, rfl⟩ := hf
    refine ⟨ι, en, S, x, S1, er, sr, h1, fun v H1 ι1 x1 sr1 r1 => ?_⟩
    have : z = .bl (decide (v = .non)) := by
      cases r1 <;> simp [un] at h3 <;> rw [← h3] <;> simp
    rw [this] at c
    exact c _ _ _ x1 sr1 (.bl _)
  exact ⟨PE.mono (pe_cmp (pc_isN ha) rfl) key, PT.mono (pt_cmp (pc_isN ha) rfl) fun σ H Q h => key σ H _ (rdT_rd h)⟩
theorem sd_notN {j : Nat} (ha : Sd G X a fa) : Sd G X (.Compare a [.IsNot] [.Constant .none j p2] pos) (fun σ S => (fa σ S).bind fun r => (un .notN r.1).map (·, r.2)) ∧
    Sdt G X (.Compare a [.IsNot] [.Constant .none j p2] pos) (fun σ S => (fa σ S).bind fun r => (un .notN r.1).map (·, r.2)) := by
  have key : ∀ σ H Q, rd G (fun σ S => (fa σ S).bind fun r => (un .notN r.1).map (·, r.2)) σ H Q → tNotN (rd G fa) σ H Q := fun σ H Q ⟨ι, en, S, d, S', er, sr, hf, c⟩ => by
    obtain ⟨⟨x, S1⟩, h1, hf⟩ := bind_some hf
    obtain ⟨z, h3, hf⟩ := map_some' hf
    simp only [Prod.mk.injEq] at hf
    obtain ⟨rfl, rfl⟩ := hf
    refine ⟨ι, en, S, x, S1, er, sr, h1, fun v H1 ι1 x1 sr1 r1 => ?_⟩
    have : z = .bl (!decide (v = .non)) := by
      cases r1 <;> simp [un] at h3 <;> rw [← h3] <;> simp
    rw [this] at c
    exact c _ _ _ x1 sr1 (.bl _)
  exact ⟨PE.mono (pe_cmp (pc_notN ha) rfl) key, PT.mono (pt_cmp (pc_notN ha) rfl) fun σ H Q h => key σ H _ (rdT_rd h)⟩
theorem sd_chain {p q : B2} {o o' : CmpOp} (ho : OpR X (compareOp o) (rB G p)) (ho' : OpR X (compareOp o') (rB G q)) (ha : Sd G X a fa) (hb : Sd G X b fb) (hc : Sd G X c fc) (hm : behindInMarks o' c = false) :
    Sd G X (.Compare a [o, o'] [b, c] pos) (fun σ S => (fa σ S).bind fun r => (fb σ r.2).bind fun s => (bin p (deref s.2 r.1) (deref s.2 s.1)).bind fun x => match x with
      | .bl true => (fc σ s.2).bind fun t => (bin q (deref t.2 s.1) (deref t.2 t.1)).map (·, t.2)
      | .bl false => some (.bl false, s.2)
      | _ => none) ∧
    Sdt G X (.Compare a [o, o'] [b, c] pos) (fun σ S => (fa σ S).bind fun r => (fb σ r.2).bind fun s => (bin p (deref s.2 r.1) (deref s.2 s.1)).bind fun x => match x with
      | .bl true => (fc σ s.2).bind fun t => (bin q (deref t.2 s.1) (deref t.2 t.1)).map (·, t.2)
      | .bl false => some (.bl false, s.2)
      | _ => none) := by
  have key : ∀ σ H Q, rd G (fun σ S => (fa σ S).bind fun r => (fb σ r.2).bind fun s => (bin p (deref s.2 r.1) (deref s.2 s.1)).bind fun x => match x with
      | .bl true => (fc σ s.2).bind fun t => (bin q (deref t.2 s.1) (deref t.2 t.1)).map (·, t.2)
      | .bl false => some (.bl false, s.2)
      | _ => none) σ H Q → tChain (rB G p) (rB G q) (rd G fa) (rd G fb) (rd G fc) σ H Q := fun σ H Q ⟨ι, en, S, d, S', er, sr, hf, c⟩ => by
    obtain ⟨⟨x, S1⟩, h1, hf⟩ := bind_some hf
    obtain ⟨⟨y, S2⟩, h2, hf⟩ := bind_some hf
    obtain ⟨z, h3, hf⟩ := bind_some hf
    refine ⟨ι, en, S, x, S1, er, sr, h1, fun v H1 ι1 x1 sr1 r1 => ?_⟩
    refine ⟨ι1, en, S1, y, S2, er.ext x1, sr1, h2, fun u H2 ι2 x2 sr2 r2 => ?_⟩
    refine ⟨ι2, S2, x, y, z, sr2, r1.ext x2, r2, h3, fun w H3 ι3 x3 sr3 r3 => ?_⟩
    cases z with
    | bl k =>
      cases r3
      refine ⟨k, rfl, ?_⟩
      cases k with
      | true =>
        simp only at hf
        obtain ⟨⟨y', S3⟩, h4, hf⟩ := bind_some hf
        obtain ⟨z', h5, hf⟩ := map_some' hf
        simp only [Prod.mk.injEq] at hf
        obtain ⟨rfl, rfl⟩ := hf
        refine iteT ⟨ι3, en, S2, y', S3, ((er.ext x1).ext x2).ext x3, sr3, h4, fun u' H4 ι4 x4 sr4 r4 => ?_⟩
        exact ⟨ι4, S3, y, y', z', sr4, (r2.ext x3).ext x4, r4, h5, fun w' H5 ι5 x5 sr5 r5 => c w' H5 ι5 ((((x1.trans x2).trans x3).trans x4).trans x5) sr5 r5⟩
      | false =>
        simp only [Option.some.injEq, Prod.mk.injEq] at hf
        obtain ⟨rfl, rfl⟩ := hf
        exact iteF (c _ _ _ ((x1.trans x2).trans x3) sr3 (.bl _))
    | _ => simp at hf
  have hm' : lastMarks [o, o'] [b, c] = false := hm
  exact ⟨PE.mono (pe_chain ho ho' ha hb hc hm') key, PT.mono (pt_chain ho ho' ha hb hc hm') fun σ H Q h => key σ H _ (rdT_rd h)⟩
/-- -a, ~a -/
theorem sd_un {op : U1} {o : UnaryOp} (ho : UnR X (unaryOp o) (fun x H Q => ∃ ι S d1 d, SR G ι S H ∧ Rep G ι H d1 x ∧ un op d1 = some d ∧ Cont G ι H S d Q)) (ha : Sd G X a fa) :
    Sd G X (.UnaryOp o a pos) (fun σ S => (fa σ S).bind fun r => (un op r.1).map (·, r.2)) :=
  PE.mono (pe_un ho ha) fun σ H Q ⟨ι, en, S, d, S', er, sr, hf, c⟩ => by
    obtain ⟨⟨x, S1⟩, h1, hf⟩ := bind_some hf
    obtain ⟨z, h3, hf⟩ := map_some' hf
    simp only [Prod.mk.injEq] at hf
    obtain ⟨rfl, rfl⟩ := hf
    exact ⟨ι, en, S, x, S1, er, sr, h1, fun v H1 ι1 x1 sr1 r1 => ⟨ι1, S1, x, z, sr1, r1, h3, fun w H2 ι2 x2 sr2 r2 => c w H2 ι2 (x1.trans x2) sr2 r2⟩⟩
theorem sd_not (ha : Sd G X a fa) (ht : Sdt G X a fa) : Sd G X (.UnaryOp .Not a pos) (fun σ S => (fa σ S).bind fun r => (un .not r.1).map (·, r.2)) ∧ Sdt G X (.UnaryOp .Not a pos) (fun σ S => (fa σ S).bind fun r => (un .not r.1).map (·, r.2)) := by
  refine ⟨PE.mono (pe_not ha) fun σ H Q ⟨ι, en, S, d, S', er, sr, hf, c⟩ => ?_, PT.mono (pt_not ht) fun σ H Q ⟨ι, en, S, d, S', er, sr, hf, c⟩ => ?_⟩
  · obtain ⟨⟨x, S1⟩, h1, hf⟩ := bind_some hf
    obtain ⟨z, h3, hf⟩ := map_some' hf
    simp only [Prod.mk.injEq] at hf
    obtain ⟨rfl, rfl⟩ := hf
    cases x <;> simp [un] at h3
    rename_i k
    subst h3
    refine ⟨ι, en, S, .bl k, S1, er, sr, h1, fun v H1 ι1 x1 sr1 r1 => ?_⟩
    cases r1
    exact ⟨k, rfl, c _ _ _ x1 sr1 (.bl _)⟩
  · obtain ⟨⟨x, S1⟩, h1, hf⟩ := bind_some hf
    obtain ⟨z, h3, hf⟩ := map_some' hf
    simp only [Prod.mk.injEq] at hf
    obtain ⟨hz, rfl⟩ := hf
    cases x <;> simp [un] at h3
    rename_i k
    rw [← h3] at hz
    simp only [D.bl.injEq] at hz
    subst hz
    exact ⟨ι, en, S, k, S1, er, sr, h1, fun H1 ι1 x1 sr1 => c _ _ x1 sr1⟩
def andF (fa fb : EF) : EF := fun σ S => (fa σ S).bind fun r => match r.1 with
    | .bl true => fb σ r.2
    | .bl false => some (.bl false, r.2)
    | _ => none
def orF (fa fb : EF) : EF := fun σ S => (fa σ S).bind fun r => match r.1 with
    | .bl true => some (.bl true, r.2)
    | .bl false => fb σ r.2
    | _ => none
theorem sd_and {rest : List Expr} (ha : Sd G X a fa) (hb : Sd G X (.BoolOp .And (b :: rest) pos) fb) : Sd G X (.BoolOp .And (a :: b :: rest) pos) (andF fa fb) :=
  PE.mono (pe_and ha hb) fun σ H Q ⟨ι, en, S, d, S', er, sr, hf, c⟩ => by
    obtain ⟨⟨x, S1⟩, h1, hf⟩ := bind_some hf
    refine ⟨ι, en, S, x, S1, er, sr, h1, fun v H1 ι1 x1 sr1 r1 => ?_⟩
    cases x with
    | bl k =>
      cases r1
      refine ⟨k, rfl, ?_⟩
      cases k with
      | true =>
        exact iteT ⟨ι1, en, S1, d, S', er.ext x1, sr1, hf, fun w H2 ι2 x2 sr2 r2 => c w H2 ι2 (x1.trans x2) sr2 r2⟩
      | false =>
        simp only [Option.some.injEq, Prod.mk.injEq] at hf
        obtain ⟨rfl, rfl⟩ := hf
        exact iteF (c _ _ _ x1 sr1 (.bl _))
    | _ => simp at hf
theorem sd_or {rest : List Expr} (ha : Sd G X a fa) (hb : Sd G X (.BoolOp .Or (b :: rest) pos) fb) : Sd G X (.BoolOp .Or (a :: b :: rest) pos) (orF fa fb) :=
  PE.mono (pe_or ha hb) fun σ H Q ⟨ι, en, S, d, S', er, sr, hf, c⟩ => by
    obtain ⟨⟨x, S1⟩, h1, hf⟩ := bind_some hf
    refine ⟨ι, en, S, x, S1, er, sr, h1, fun v H1 ι1 x1 sr1 r1 => ?_⟩
    cases x with
    | bl k =>
      cases r1
      refine ⟨k, rfl, ?_⟩
      cases k with
      | false =>
        exact iteF ⟨ι1, en, S1, d, S', er.ext x1, sr1, hf, fun w H2 ι2 x2 sr2 r2 => c w H2 ι2 (x1.trans x2) sr2 r2⟩
      | true =>
        simp only [Option.some.injEq, Prod.mk.injEq] at hf
        obtain ⟨rfl, rfl⟩ := hf
        exact iteT (c _ _ _ x1 sr1 (.bl _))
    | _ => simp at hf
theorem sdw_and {rest : List Expr} (ha : Sdt G X a fa) (hb : Sdw G X (.BoolOp .And (b :: rest) pos) fb) : Sdw G X (.BoolOp .And (a :: b :: rest) pos) (andF fa fb) :=
  PW.mono (pw_and ha hb) fun σ H Q ⟨ι, en, S, k', S', er, sr, hf, c⟩ => by
    obtain ⟨⟨x, S1⟩, h1, hf⟩ := bind_some hf
    cases x with
    | bl k =>
      refine ⟨ι, en, S, k, S1, er, sr, h1, fun H1 ι1 x1 sr1 => ?_⟩
      cases k with
      | true =>
        exact iteT ⟨ι1, en, S1, k', S', er.ext x1, sr1, hf, fun H2 ι2 x2 sr2 => c H2 ι2 (x1.trans x2) sr2⟩
      | false =>
        simp only [Option.some.injEq, Prod.mk.injEq, D.bl.injEq] at hf
        obtain ⟨rfl, rfl⟩ := hf
        exact iteF (c _ _ x1 sr1)
    | _ => simp at hf
theorem sdw_or {rest : List Expr} (ha : Sdt G X a fa) (hb : Sdw G X (.BoolOp .Or (b :: rest) pos) fb) : Sdw G X (.BoolOp .Or (a :: b :: rest) pos) (orF fa fb) :=
  PW.mono (pw_or ha hb) fun σ H Q ⟨ι, en, S, k', S', er, sr, hf, c⟩ => by
    obtain ⟨⟨x, S1⟩, h1, hf⟩ := bind_some hf
    cases x with
    | bl k =>
      refine ⟨ι, en, S, k, S1, er, sr, h1, fun H1 ι1 x1 sr1 => ?_⟩
      cases k with
      | false =>
        exact iteF ⟨ι1, en, S1, k', S', er.ext x1, sr1, hf, fun H2 ι2 x2 sr2 => c H2 ι2 (x1.trans x2) sr2⟩
      | true =>
        simp only [Option.some.injEq, Prod.mk.injEq, D.bl.injEq] at hf
        obtain ⟨rfl, rfl⟩ := hf
        exact iteT (c _ _ x1 sr1)
    | _ => simp at hf
theorem sd_ite {ft : EF} {t : Expr} (ht : Sdt G X t ft) (ha : Sd G X a fa) (hb : Sd G X b fb) : Sd G X (.IfExp t a b pos) (fun σ S => (ft σ S).bind fun r => match r.1 with
    | .bl true => fa σ r.2
    | .bl false => fb σ r.2
    | _ => none) :=
  PE.mono (pe_ifExp ht ha hb) fun σ H Q ⟨ι, en, S, d, S', er, sr, hf, c⟩ => by
    obtain ⟨⟨x, S1⟩, h1, hf⟩ := bind_some hf
    cases x with
    | bl k =>
      refine ⟨ι, en, S, k, S1, er, sr, h1, fun H1 ι1 x1 sr1 => ?_⟩
      cases k with
      | true => exact iteT ⟨ι1, en, S1, d, S', er.ext x1, sr1, hf, fun w H2 ι2 x2 sr2 r2 => c w H2 ι2 (x1.trans x2) sr2 r2⟩
      | false => exact iteF ⟨ι1, en, S1, d, S', er.ext x1, sr1, hf, fun w H2 ι2 x2 sr2 r2 => c w H2 ι2 (x1.trans x2) sr2 r2⟩
    | _ => simp at hf
/-- a test that is a value -/
theorem sdt_of (h : Sd G X e f) (he : ∀ whole, isTrue e X.env whole = (do let v ← whole; standAt e.pos; holding [v] (truthy v))) : Sdt G X e f :=
  PT.mono (pt_val h he) fun σ H Q q => rdT_rd q
theorem sdt_ite {ft : EF} {t : Expr} (ht : Sdt G X t ft) (ha : Sdt G X a fa) (hb : Sdt G X b fb) : Sdt G X (.IfExp t a b pos) (fun σ S => (ft σ S).bind fun r => match r.1 with
    | .bl true => fa σ r.2
    | .bl false => fb σ r.2
    | _ => none) := by
  refine ⟨fun pins s σ H Q I ⟨ι, en, S, d, S', er, sr, hf, c⟩ => ?_⟩
  obtain ⟨⟨x, S1⟩, h1, hf⟩ := bind_some hf
  unfold PySem.isTrue
  cases x with
  | bl k =>
    refine wpAny_bind (thn (ht.run pins s σ H (fun b H1 => if b = true then rdT G fa σ H1 Q else rdT G fb σ H1 Q) I ⟨ι, en, S, k, S1, er, sr, h1, fun H1 ι1 x1 sr1 => ?_⟩) fun b s1 ⟨H1, I1, q1⟩ => ?_)
    · cases k with
      | true => exact iteT ⟨ι1, en, S1, d, S', er.ext x1, sr1, hf, fun H2 ι2 x2 sr2 => c H2 ι2 (x1.trans x2) sr2⟩
      | false => exact iteF ⟨ι1, en, S1, d, S', er.ext x1, sr1, hf, fun H2 ι2 x2 sr2 => c H2 ι2 (x1.trans x2) sr2⟩
    · cases b with
      | true => rw [if_pos rfl] at q1 ⊢; exact ha.run pins s1 σ H1 Q I1 q1
      | false => rw [if_neg (by decide)] at q1 ⊢; exact hb.run pins s1 σ H1 Q I1 q1
  | _ => simp at hf

/-! ### rows of expressions -/
theorem sda_nil : Sda G X [] (fun _ S => some ([], S)) := PA.mono pa_nil fun σ H Q ⟨ι, en, S, d, S', er, sr, hf, c⟩ => by
  simp only [Option.some.injEq, Prod.mk.injEq] at hf
  obtain ⟨rfl, rfl⟩ := hf
  exact c _ _ _ Ext.refl sr .nil
theorem sda_cons (ha : Sd G X a fa) (hr : Sda G X es fs) (hs : starEach (a :: es) X.env = (false, eval a X.env) :: starEach es X.env) :
    Sda G X (a :: es) (fun σ S => (fa σ S).bind fun r => (fs σ r.2).bind fun q => some (r.1 :: q.1, q.2)) :=
  PA.mono (pa_cons ha hr hs) fun σ H Q ⟨ι, en, S, d, S', er, sr, hf, c⟩ => by
    obtain ⟨⟨x, S1⟩, h1, hf⟩ := bind_some hf
    obtain ⟨⟨xs, S2⟩, h2, hf⟩ := bind_some hf
    simp only [Option.some.injEq, Prod.mk.injEq] at hf
    obtain ⟨rfl, rfl⟩ := hf
    refine ⟨ι, en, S, x, S1, er, sr, h1, fun v H1 ι1 x1 sr1 r1 => ?_⟩
    refine ⟨ι1, en, S1, xs, S2, er.ext x1, sr1, h2, fun vs H2 ι2 x2 sr2 r2 => ?_⟩
    exact c _ _ _ (x1.trans x2) sr2 (.cons (r1.ext x2) r2)
theorem sda_star (hK : X.K = G.K) (ha : Sd G X a fa) (hr : Sda G X es fs) :
    Sda G X (.Starred a pos :: es) (fun σ S => (fa σ S).bind fun r => (seqOf (deref r.2 r.1)).bind fun xs => (fs σ r.2).bind fun q => some (xs ++ q.1, q.2)) :=
  PA.mono (StX.pa_star ha hr) fun σ H Q ⟨ι, en, S, d, S', er, sr, hf, c⟩ => by
    obtain ⟨⟨x, S1⟩, h1, hf⟩ := bind_some hf
    obtain ⟨xs, hx, hf⟩ := bind_some hf
    obtain ⟨⟨ys, S2⟩, h2, hf⟩ := bind_some hf
    simp only [Option.some.injEq, Prod.mk.injEq] at hf
    obtain ⟨rfl, rfl⟩ := hf
    refine ⟨ι, en, S, x, S1, er, sr, h1, fun v H1 ι1 x1 sr1 r1 => ?_⟩
    cases hd : deref S1 x with
    | tup zs =>
      rw [hd] at hx
      simp only [seqOf, Option.some.injEq] at hx
      subst hx
      obtain ⟨a, vs, rfl, t, z, q⟩ := view_tup sr1 r1 hd
      refine ⟨a, vs, rfl, .inl (hK ▸ t.sq), ι1, en, S1, ys, S2, er.ext x1, sr1, h2, fun vs2 H2 ι2 x2 sr2 r2 => ?_⟩
      exact c _ _ _ (x1.trans x2) sr2 ((q.ext x2).append r2)
    | lst zs =>
      rw [hd] at hx
      simp only [seqOf, Option.some.injEq] at hx
      subst hx
      obtain ⟨a, vs, rfl, t, z, q⟩ := view_lst sr1 r1 hd
      refine ⟨a, vs, rfl, .inr (.inl t), ι1, en, S1, ys, S2, er.ext x1, sr1, h2, fun vs2 H2 ι2 x2 sr2 r2 => ?_⟩
      exact c _ _ _ (x1.trans x2) sr2 ((q.ext x2).append r2)
    | _ => rw [hd] at hx; simp [seqOf] at hx
theorem sd_tup {k : Nat} (h : Sda G X es fs) : Sd G X (.Tuple es k pos) (fun σ S => (fs σ S).bind fun r => if r.1.length ≤ LIM then some (.tup r.1, r.2) else none) :=
  PE.mono (pe_tup h) fun σ H Q ⟨ι, en, S, d, S', er, sr, hf, c⟩ => by
    obtain ⟨⟨xs, S1⟩, h1, hf⟩ := bind_some hf
    simp only at hf
    split at hf
    · rename_i hz
      simp only [Option.some.injEq, Prod.mk.injEq] at hf
      obtain ⟨rfl, rfl⟩ := hf
      rw [LIM_eq] at hz
      refine ⟨ι, en, S, xs, S1, er, sr, h1, fun vs H1 ι1 x1 sr1 r1 => ?_⟩
      have hl : vs.length ≤ sizeLine := by rw [← r1.length]; exact hz
      refine ⟨hl, fun p hp => ?_⟩
      have c1 : Cont G ι1 H1 S1 (.tup xs) Q := fun w H2 ι2 x2 sr2 r2 => c w H2 ι2 (x1.trans x2) sr2 r2
      exact c1.tup sr1 r1 hl hp
    · cases hf
/-- a new list: a plain row, or a cell -/
theorem mk_new {ι : List Addr} {H : Hp} {S S' : Store} {cell : Bool} {xs : List D} {vs : List V} {d : D} {Q : VK} (sr : SR G ι S H) (r : Reps G ι H xs vs) (e : mk cell xs S = some (d, S')) (c : Cont G ι H S' d Q) {p : Addr} (hp : H p = none) :
    vs.length ≤ sizeLine ∧ Q (.ref p) (upd H p (.lst vs)) := by
  unfold mk at e
  split at e
  · rename_i hz
    rw [LIM_eq] at hz
    have hl : vs.length ≤ sizeLine := by rw [← r.length]; exact hz
    refine ⟨hl, ?_⟩
    cases cell with
    | false =>
      simp only [Bool.false_eq_true, if_false, Option.some.injEq, Prod.mk.injEq] at e
      obtain ⟨rfl, rfl⟩ := e
      exact c.lst sr r hl hp
    | true =>
      simp only [if_true, Option.some.injEq, Prod.mk.injEq] at e
      obtain ⟨rfl, rfl⟩ := e
      refine c _ _ _ (cell_ext sr hp _) (cell_sr sr hp ⟨vs, upd_same, hl, r.ext (cell_ext sr hp _)⟩) (.ref ?_)
      rw [← sr.len, List.getElem?_append_right (Nat.le_refl _)]
      simp
  · cases e
theorem sd_lst {cell : Bool} (h : Sda G X es fs) : Sd G X (.List es pos) (fun σ S => (fs σ S).bind fun r => mk cell r.1 r.2) :=
  PE.mono (pe_lst h) fun σ H Q ⟨ι, en, S, d, S', er, sr, hf, c⟩ => by
    obtain ⟨⟨xs, S1⟩, h1, hf⟩ := bind_some hf
    refine ⟨ι, en, S, xs, S1, er, sr, h1, fun vs H1 ι1 x1 sr1 r1 => ?_⟩
    have c1 : Cont G ι1 H1 S' d Q := fun w H2 ι2 x2 sr2 r2 => c w H2 ι2 (x1.trans x2) sr2 r2
    refine ⟨?_, fun p hp => (mk_new sr1 r1 hf c1 hp).2⟩
    have : xs.length ≤ LIM := by
      unfold mk at hf
      split at hf
      · assumption
      · cases hf
    rw [LIM_eq] at this
    rw [← r1.length]
    exact this
/-- a new empty dict -/
theorem mkD_new {ι : List Addr} {H : Hp} {S S' : Store} {cell : Bool} {xs : List (D × D)} {vs : List (Key × V)} {d : D} {Q : VK} (sr : SR G ι S H) (r : RepK G ι H xs vs) (z : vs.length ≤ sizeLine) (e : mkD cell xs S = some (d, S')) (c : Cont G ι H S' d Q) {p : Addr} (hp : H p = none) :
    Q (.ref p) (upd H p (.dK vs)) := by
  unfold mkD at e
  cases cell with
  | false =>
    simp only [Bool.false_eq_true, if_false, Option.some.injEq, Prod.mk.injEq] at e
    obtain ⟨rfl, rfl⟩ := e
    exact c _ _ _ (new_ext sr hp _) (new_sr sr hp _) (.dic upd_same (sr.fre hp) z (r.ext (new_ext sr hp _)))
  | true =>
    simp only [if_true, Option.some.injEq, Prod.mk.injEq] at e
    obtain ⟨rfl, rfl⟩ := e
    refine c _ _ _ (cell_ext sr hp _) (cell_sr sr hp ⟨vs, upd_same, z, r.ext (cell_ext sr hp _)⟩) (.ref ?_)
    rw [← sr.len, List.getElem?_append_right (Nat.le_refl _)]
    simp
theorem sd_dic0 {cell : Bool} : Sd G X (.Dict [] [] pos) (fun _ S => mkD cell [] S) :=
  PE.mono pe_dnewK fun σ H Q ⟨ι, en, S, d, S', er, sr, hf, c⟩ => fun p hp => mkD_new sr .nil (Nat.zero_le _) hf c hp
theorem sd_idx (hK : X.K = G.K) (hu : X.A.units + 70 < cLine) (ha : Sd G X a fa) (hb : Sd G X b fb) (hs : PlainIx b) :
    Sd G X (.Subscript a b pos) (fun σ S => (fa σ S).bind fun r => (fb σ r.2).bind fun q => (idx (deref q.2 r.1) q.1).map (·, q.2)) :=
  PE.mono (pe_ix (ix_ok hK hu) ha hb hs) fun σ H Q ⟨ι, en, S, d, S', er, sr, hf, c⟩ => by
    obtain ⟨⟨x, S1⟩, h1, hf⟩ := bind_some hf
    obtain ⟨⟨y, S2⟩, h2, hf⟩ := bind_some hf
    obtain ⟨z, h3, hf⟩ := map_some' hf
    simp only [Prod.mk.injEq] at hf
    obtain ⟨rfl, rfl⟩ := hf
    refine ⟨ι, en, S, x, S1, er, sr, h1, fun v H1 ι1 x1 sr1 r1 => ?_⟩
    refine ⟨ι1, en, S1, y, S2, er.ext x1, sr1, h2, fun u H2 ι2 x2 sr2 r2 => ?_⟩
    exact ⟨ι2, S2, x, y, z, sr2, r1.ext x2, r2, h3, fun w H3 ι3 x3 sr3 r3 => c w H3 ι3 ((x1.trans x2).trans x3) sr3 r3⟩
/-- a part of a slice -/
abbrev OF := Ev → Store → Option (Option Int × Store)
def rdO (G : Cn) (f : OF) : TO := fun σ H Q => ∃ ι e S o S', EnvR G ι H e σ ∧ SR G ι S H ∧ f e S = some (o, S') ∧ ∀ H' ι', Ext ι H ι' H' → SR G ι' S' H' → Q o H'
theorem po_mono {oe : Option Expr} {t t' : TO} (h : PO X oe t) (w : ∀ σ H Q, t' σ H Q → t σ H Q) : PO X oe t' := ⟨fun pins s σ H Q I q => h.run pins s σ H Q I (w σ H Q q)⟩
theorem sdo_none : PO X none (rdO G (fun _ S => some (none, S))) := po_mono po_none fun σ H Q ⟨ι, en, S, d, S', er, sr, hf, c⟩ => by
  simp only [Option.some.injEq, Prod.mk.injEq] at hf
  obtain ⟨rfl, rfl⟩ := hf
  exact c _ _ Ext.refl sr
theorem sdo_some (h : Sd G X e f) : PO X (some e) (rdO G (fun σ S => (f σ S).bind fun r => match r.1 with
    | .int i => some (some i, r.2)
    | _ => none)) := po_mono (po_some h) fun σ H Q ⟨ι, en, S, d, S', er, sr, hf, c⟩ => by
  obtain ⟨⟨x, S1⟩, h1, hf⟩ := bind_some hf
  cases x with
  | int i =>
    simp only [Option.some.injEq, Prod.mk.injEq] at hf
    obtain ⟨rfl, rfl⟩ := hf
    refine ⟨ι, en, S, .int i, S1, er, sr, h1, fun v H1 ι1 x1 sr1 r1 => ?_⟩
    cases r1
    exact ⟨i, rfl, c _ _ x1 sr1⟩
  | _ => simp at hf
theorem sd_slc (hK : X.K = G.K) {lo hi : Option Expr} {fl fh : OF} (ha : Sd G X a fa) (hl : PO X lo (rdO G fl)) (hh : PO X hi (rdO G fh)) :
    Sd G X (.Subscript a (.Slice lo hi none p2) pos) (fun σ S => (fa σ S).bind fun r => (fl σ r.2).bind fun l => (fh σ l.2).bind fun h => (slc (deref h.2 r.1) l.1 h.1).map (·, h.2)) :=
  PE.mono (pe_slice (sl_ok hK) ha hl hh) fun σ H Q ⟨ι, en, S, d, S', er, sr, hf, c⟩ => by
    obtain ⟨⟨x, S1⟩, h1, hf⟩ := bind_some hf
    obtain ⟨⟨l, S2⟩, h2, hf⟩ := bind_some hf
    obtain ⟨⟨h, S3⟩, h3, hf⟩ := bind_some hf
    obtain ⟨z, h4, hf⟩ := map_some' hf
    simp only [Prod.mk.injEq] at hf
    obtain ⟨rfl, rfl⟩ := hf
    refine ⟨ι, en, S, x, S1, er, sr, h1, fun v H1 ι1 x1 sr1 r1 => ?_⟩
    refine ⟨ι1, en, S1, l, S2, er.ext x1, sr1, h2, fun H2 ι2 x2 sr2 => ?_⟩
    refine ⟨ι2, en, S2, h, S3, (er.ext x1).ext x2, sr2, h3, fun H3 ι3 x3 sr3 => ?_⟩
    exact ⟨ι3, S3, x, z, sr3, (r1.ext x2).ext x3, h4, fun w H4 ι4 x4 sr4 r4 => c w H4 ι4 (((x1.trans x2).trans x3).trans x4) sr4 r4⟩
/-- a call of a built-in -/
theorem prim_wish {p : Prim} {σ : L2.St} {H : Hp} {Q : VK} (h : rd G (fun σ S => (fs σ S).bind fun r => (prim p (r.1.map (deref r.2))).map (·, r.2)) σ H Q) : tCB (rP G p) (rdA G fs) σ H Q := by
  obtain ⟨ι, en, S, d, S', er, sr, hf, c⟩ := h
  obtain ⟨⟨xs, S1⟩, h1, hf⟩ := bind_some hf
  obtain ⟨z, h4, hf⟩ := map_some' hf
  simp only [Prod.mk.injEq] at hf
  obtain ⟨rfl, rfl⟩ := hf
  refine ⟨ι, en, S, xs, S1, er, sr, h1, fun vs H1 ι1 x1 sr1 r1 => ?_⟩
  exact ⟨ι1, S1, xs, z, sr1, r1, h4, fun w H4 ι4 x4 sr4 r4 => c w H4 ι4 (x1.trans x4) sr4 r4⟩
/-- e.f -/
theorem RepF.look {ι : List Addr} {H : Hp} {f : Str} : ∀ {fs : List (Str × D)} {vs : List (Str × V)} {d : D}, RepF G ι H fs vs → lookF f fs = some d → ∃ v, vs.lookup f = some v ∧ Rep G ι H d v
  | [], _, _, _, h => by simp [lookF] at h
  | (k, w) :: r, _, d, .cons h t, e => by
    unfold lookF at e
    by_cases hk : f = k
    · rw [if_pos hk] at e
      cases e
      subst hk
      exact ⟨_, by simp [List.lookup_cons], h⟩
    · rw [if_neg hk] at e
      obtain ⟨v, h1, h2⟩ := RepF.look t e
      refine ⟨v, ?_, h2⟩
      rw [List.lookup_cons]
      have : (f == k) = false := by simpa using hk
      rw [this]
      exact h1
theorem RepF.none {ι : List Addr} {H : Hp} {f : Str} : ∀ {fs : List (Str × D)} {vs : List (Str × V)}, RepF G ι H fs vs → lookF f fs = Option.none → vs.lookup f = Option.none
  | [], _, .nil, _ => rfl
  | (k, w) :: r, _, .cons h t, e => by
    unfold lookF at e
    by_cases hk : f = k
    · rw [if_pos hk] at e; cases e
    · rw [if_neg hk] at e
      rw [List.lookup_cons]
      have : (f == k) = false := by simpa using hk
      rw [this]
      exact RepF.none t e
theorem sd_fld {m : Str} (ha : Sd G X a fa) (hb : attributeBase a m X.env (eval a X.env) = eval a X.env) (hc : ∀ c, c < G.nc → Cls X.K (G.ca c) ∧ NoAttr X.K (G.ca c) m) :
    Sd G X (.Attribute a m pos) (fun σ S => (fa σ S).bind fun r => (match r.1 with
    | .ref n => (match r.2[n]? with
      | some (.ins _ fs) => (lookF m fs).map (·, r.2)
      | _ => none)
    | _ => none)) :=
  PE.mono (pe_fld ha hb) fun σ H Q ⟨ι, en, S, d, S', er, sr, hf, c⟩ => by
    obtain ⟨⟨x, S1⟩, h1, hf⟩ := bind_some hf
    refine ⟨ι, en, S, x, S1, er, sr, h1, fun v H1 ι1 x1 sr1 r1 => ?_⟩
    cases x with
    | ref n =>
      simp only at hf
      split at hf
      · rename_i cc fs hcell
        obtain ⟨z, h4, hf⟩ := map_some' hf
        simp only [Prod.mk.injEq] at hf
        obtain ⟨rfl, rfl⟩ := hf
        cases r1 with
        | @ref _ ad hn =>
          obtain ⟨b, hb', hcc, dx, vs, q, z', rf⟩ := sr1.cell n _ hcell
          rw [hn] at hb'
          cases hb'
          obtain ⟨w, lw, rw'⟩ := rf.look h4
          exact ⟨ad, G.ca cc, dx, vs, w, rfl, q, (hc cc hcc).1, (hc cc hcc).2, lw, c _ _ _ x1 sr1 rw'⟩
      · cases hf
    | _ => simp at hf
end
end Fw
end
section
set_option Elab.async false
set_option linter.all false
set_option autoImplicit false
set_option maxRecDepth 100000
set_option maxHeartbeats 4000000
/-! Fw8: what is walked. -/
namespace Fw
open PySem PySem.Spec PyProof.Rows L2 RZ
open AutoSeq1 (wpAny_loadPart')

/-! ### enumerate of a tuple -/
theorem meets_enumerate_newT (l : Addr) (items : Array Value) (n : Nat) (dct : Option Addr) (sl : Array (Option Value)) :
    Meets (Builtin.«enumerate.__new__» ⟨[.type "enumerate", .ref l], []⟩) (fun _ R s => s.heap.get? l = some { cls := .type "tuple", dict := dct, data := .seq items n, slots := sl } ∧
      R (.ok (.ret (.ref (s.heap.push { cls := .type "tuple_iterator", data := .fields #[.ref l, .int 0 0] }).objs.size)))
        { s with heap := (s.heap.push { cls := .type "tuple_iterator", data := .fields #[.ref l, .int 0 0] }).push { cls := .type "enumerate", data := .fields #[.none, .bool false, .ref s.heap.objs.size, rawInt 0, .none, .none] } }) :=
  .of_wp fun prog w A R s h => by
    obtain ⟨hp, g, d, tk, os⟩ := s; obtain ⟨hl, h⟩ := h
    have hsub := sub_enumerate
    have hL : Heap.IsTuple (Shared.heap ⟨hp, g, d, tk, os⟩) l items := ⟨_, hl, rfl, n, rfl⟩
    wp_walk using wpAny_loadPart' hl
    refine wpAny_stack_any fun st => wpAny_pure ?_
    split
    · rename_i c _ _ _ _ _
      cases (c == Value.type "enumerate")
      · wp_walk using wpAny_loadPart' hl, wpAny_pyIter_tuple hL
        exact ⟨_, rfl, h⟩
      · wp_walk using wpAny_loadPart' hl, wpAny_pyIter_tuple hL
        exact ⟨_, rfl, h⟩
    · wp_walk using wpAny_loadPart' hl, wpAny_pyIter_tuple hL
      exact ⟨_, rfl, h⟩
section
variable {prog : Program} {w : World} {A : Around} {E : Value → Shared → Prop} {s : Shared}
theorem call_enumerate_tuple {l : Addr} {items : Array Value} {Q : Value → Shared → Prop} (hL : s.heap.IsTuple l items)
    (h : ∀ h', IsEnum h' (s.heap.objs.size + 1) s.heap.objs.size 0 .none → h'.IsTupleIter s.heap.objs.size l 0 → h'.objs.size = s.heap.objs.size + 2 →
      (∀ b o, s.heap.get? b = some o → h'.get? b = some o) → Q (.ref (s.heap.objs.size + 1)) { s with heap := h' }) :
    wpAny (model prog w) A (call (.type "enumerate") [.ref l]) Q E s := by
  obtain ⟨⟨c, dct, dt, sl⟩, hl, hc, n, hd⟩ := hL
  replace hc : c = .type "tuple" := hc
  replace hd : dt = .seq items n := hd
  subst hc hd
  refine callType_new F.called_enumerate (by decide) (F.typeCall_enumerate_1 _) (F.newCall_enumerate_1 _) (fun obj => F.args_object_init_2 obj _) F.entry_enumerate_new
    (meets_enumerate_newT l items n dct sl) ⟨hl, ?_⟩
  have hz : (s.heap.push { cls := .type "tuple_iterator", data := .fields #[.ref l, .int 0 0] }).objs.size = s.heap.objs.size + 1 := Heap.size_push ..
  show _ ∧ _
  rw [hz]
  have he : IsEnum ((s.heap.push { cls := .type "tuple_iterator", data := .fields #[.ref l, .int 0 0] }).push
      { cls := .type "enumerate", data := .fields #[.none, .bool false, .ref s.heap.objs.size, rawInt 0, .none, .none] }) (s.heap.objs.size + 1) s.heap.objs.size 0 .none := by
    have := Heap.get?_push_size (s.heap.push { cls := .type "tuple_iterator", data := .fields #[.ref l, .int 0 0] })
      (o := { cls := .type "enumerate", data := .fields #[.none, .bool false, .ref s.heap.objs.size, rawInt 0, .none, .none] }) rfl
    rw [hz] at this; exact this
  refine ⟨⟨_, he, rfl⟩, h _ he ⟨_, Heap.get?_push_of_some _ (Heap.get?_push_size _ rfl), rfl, rfl⟩ (by rw [Heap.size_push, hz]) fun b o x => Heap.get?_push_of_some _ (Heap.get?_push_of_some _ x)⟩
end
def IteT (K : PySem.W.Frag) (a : Addr) : It :=
  ⟨fun i H => ∃ (xs : List V) (x : V), SqT K H a xs ∧ xs[i]? = some x, fun i H v H' => ∃ T x, v = .ref T ∧ H T = none ∧ H' = upd H T (.tup [.int (i : Nat), x]) ∧ ∀ xs, SqT K H a xs → xs[i]? = some x, fun i H => ∃ xs : List V, SqT K H a xs ∧ xs.length = i⟩
theorem turn_enumT {P : Program} {w : World} {K : PySem.W.Frag} {elts : List Expr} {kk : Nat} {tpos : Pos} (a e it : Addr) :
    Turn P w K (.Tuple elts kk tpos) (IteT K a) [e, it] e (fun i h => (∃ old, IsEnum h e it ((i : Nat) : Int) old) ∧ h.IsTupleIter it a i ∧ e ≠ it) where
  mem := by simp
  obj := fun i h st b hb => by
    obtain ⟨⟨old, he⟩, ⟨o, ho, hc, hd⟩, _⟩ := st
    have e' : b = e ∨ b = it := by simpa using hb
    rcases e' with z | z
    · rw [z]; exact ⟨_, he, fun v q => nomatch q⟩
    · rw [z]; exact ⟨o, ho, fun v q => by rw [hd] at q; cases q⟩
  keep := fun i h h' st k => let ⟨⟨old, he⟩, hi, hne⟩ := st; ⟨⟨old, k e (by simp) _ he⟩, hi.at fun o q => k it (by simp) o q, hne⟩
  item := by
    intro X hP hw hK hc i pins s σ H E I hf st hg
    subst hP hw hK
    obtain ⟨⟨old, he⟩, hit, hne⟩ := st
    obtain ⟨xs, x, hq, hx⟩ := hg
    obtain ⟨its, rv, p, hz⟩ := I.tuple hq
    obtain ⟨u, hu, ru⟩ := rv.get hx
    have hel : e < s.heap.objs.size := Heap.lt_size he
    have hil : it < s.heap.objs.size := by obtain ⟨_, q, _⟩ := hit; exact Heap.lt_size q
    have hT : s.heap.IsTuple a its.toArray := p
    have hai : a ≠ it := fun z => by
      obtain ⟨o1, e1, c1, _⟩ := hT
      obtain ⟨o2, e2, c2, _⟩ := hit
      rw [z, e2] at e1; cases e1
      rw [c1] at c2
      simp at c2
    have hae : a ≠ e := fun z => by
      obtain ⟨o1, e1, c1, _⟩ := hT
      rw [z, he] at e1; cases e1
      simp at c1
    have hlt : i < its.toArray.size := by
      have := (List.getElem?_eq_some_iff.mp hu).1
      simpa using this
    refine wpAny_pyNext_enum_itemD (Draws.tuple (A := X.A.in1) (I.ok.hd hc) it a hai its.toArray) he ⟨hit, hT⟩ hlt hne (by simp [hne, Ne.symm hae]) fun x' h' tk hP ho hst' hT' hsz hk => ?_
    have hxu : x' = u := by
      have : its.toArray[i]? = some x' := hP
      rw [List.getElem?_toArray, hu] at this
      exact (Option.some.inj this).symm
    subst hxu
    refine ⟨_, rfl, wpAny_letOwnedTupleGo_enum (s := { s with heap := h', toks := tk + 1 }) ho fun h'' he' sb => ?_⟩
    have hT2 : h''.get? s.heap.objs.size = some { cls := .type "tuple", data := .seq #[.int i tk, x'] } := (sb.2 _ (Nat.ne_of_gt hel)).trans hT'
    have new : ObjOk X.prog X.w (upd H s.heap.objs.size (.tup [.int (i : Nat), x])) h'' s.heap.objs.size (.tup [.int (i : Nat), x]) :=
      ⟨by show 2 ≤ sizeLine; decide, [.int i tk, x'], .cons ⟨_, rfl⟩ (.cons ru .nil), ⟨_, hT2, rfl, _, rfl⟩⟩
    have I1 : L2.Inv X pins σ (upd H s.heap.objs.size (.tup [.int (i : Nat), x])) { s with heap := h'', toks := tk + 1 } :=
      I.turnedNew (ch := [e, it]) (fun b ob hb q => (sb.2 b (fun z => hb (by simp [z]))).trans (hk b ob (fun z => hb (by simp [z])) (fun z => hb (by simp [z])) q)) hf (Nat.le_refl _) new
    refine ⟨.ref s.heap.objs.size, _, I1, rfl, ⟨_, x, rfl, I.hok.fresh (Nat.le_refl _), rfl, fun ys hy => by rw [I.tuple_inj hy hq]; exact hx⟩, ⟨⟨x', ?_⟩, hst'.1.at fun o q => (sb.2 it (Ne.symm hne)).trans q, hne⟩, fun b hb => ?_⟩
    · have e1 : ((i + 1 : Nat) : Int) = (i : Int) + 1 := by omega
      rw [e1]; exact he'
    · have hb' : b < s.heap.objs.size := by
        have e' : b = e ∨ b = it := by simpa using hb
        rcases e' with z | z
        · rw [z]; exact hel
        · rw [z]; exact hil
      rw [upd_ne (Nat.ne_of_lt hb')]
      exact (hf b hb).1
  done := by
    intro X hP hw hK hc i pins s σ H E I hf st hg
    subst hP hw hK
    obtain ⟨⟨old, he⟩, hit, hne⟩ := st
    obtain ⟨xs, hq, hx⟩ := hg
    obtain ⟨its, rv, p, hz⟩ := I.tuple hq
    obtain ⟨f0, f1, f2, f3, f4, f5⟩ := hf it (by simp)
    have hl := rv.length
    have hT : s.heap.IsTuple a its.toArray := p
    have hai : a ≠ it := fun z => by
      obtain ⟨o1, e1, c1, _⟩ := hT
      obtain ⟨o2, e2, c2, _⟩ := hit
      rw [z, e2] at e1; cases e1
      rw [c1] at c2
      simp at c2
    subst hx
    refine wpAny_pyNext_enum_endD (Draws.tuple (A := X.A.in1) (I.ok.hd hc) it a hai its.toArray) he (by rw [List.size_toArray, ← hl]; exact ⟨hit, hT⟩) fun h' eb => ⟨rfl, I.turned (t' := s.toks) (fun b o hb q => eb b o hb q) f0 f1 f3 f4 f5⟩
  self := fun A i s Q E st h => let ⟨⟨_, he⟩, _⟩ := st; wpAny_pyIter_enum he h
def iEnumT (K : PySem.W.Frag) (ta : TA) : TI := fun σ H R => ta σ H fun vs H1 => ∃ a xs, vs = [.ref a] ∧ SqT K H1 a xs ∧ R (IteT K a) H1
theorem pi_enumT {X : Cx} {e : Expr} {ta : TA} {p pos tpos : Pos} {elts : List Expr} {kk : Nat} (hg : Gl X "enumerate") (hm : X.mg "enumerate" = none) (ha : PA X [e] ta) (hs : starEach [e] X.env = [(false, eval e X.env)]) :
    PI X (.Tuple elts kk tpos) (.Call (.Name "enumerate" p) [e] [] pos) (iEnumT X.K ta) := by
  refine ⟨fun pins s σ H R I h => ?_⟩
  refine Call_ (ld_blt I hg hm boot_enumerate (PyProof.Rows.callWith_type1 (thn (ha.run pos pins s σ H _ I h) fun us s1 ⟨vs, H1, I1, r1, q1⟩ => ?_) hs rfl))
  obtain ⟨a, xs, ex, hq, q⟩ := q1
  subst ex
  cases r1 with
  | cons r rr =>
    cases rr
    cases r
    obtain ⟨its, rv, p', hz⟩ := I1.tuple hq
    refine call_enumerate_tuple (show s1.heap.IsTuple a its.toArray from p') fun h' he hit hsz hk => wpAny_pyIter_enum he ?_
    have I2 : L2.Inv X pins σ H1 { s1 with heap := h' } := I1.kept (t' := s1.toks) hk
    refine ⟨s1.heap.objs.size + 1, [s1.heap.objs.size + 1, s1.heap.objs.size], _, _, H1, rfl, I2, turn_enumT a (s1.heap.objs.size + 1) s1.heap.objs.size, ⟨⟨.none, he⟩, hit, Nat.succ_ne_self _⟩, fun b hb => ?_, q⟩
    have e' : b = s1.heap.objs.size + 1 ∨ b = s1.heap.objs.size := by simpa using hb
    have hle : s1.heap.objs.size ≤ b := by
      rcases e' with z | z
      · rw [z]; exact Nat.le_add_right _ _
      · rw [z]; exact Nat.le_refl _
    exact I1.fpOk hle (I1.hok.fresh hle)
theorem walk_enumT {K : PySem.W.Frag} {a : Addr} {xs : List V} : Walk (IteT K a) xs.length (fun H => SqT K H a xs) (YPair (fun i => some (.int (i : Nat))) (fun i => xs[i]?)) := by
  refine ⟨fun i _ hi q => ⟨xs, xs[i], q, by simp [hi]⟩, fun _ q => ⟨xs, q, rfl⟩, fun i H v H' _ q y => ?_⟩
  obtain ⟨T, x, h1, h2, h3, h4⟩ := y
  exact ⟨T, .int (i : Nat), x, h1, h2, h3, rfl, h4 xs q⟩

/-! ### carried over -/
section
variable {G G' : Cn} {ι ι' : List Addr} {H H' : Hp} {S : Store}
/-- what a carrying needs -/
structure Tr (G : Cn) (ι : List Addr) (H : Hp) (G' : Cn) (ι' : List Addr) (H' : Hp) : Prop where
  k : G'.K = G.K
  at_ : ∀ (n : Nat) a, ι[n]? = some a → ι'[n]? = some a
  fr : ∀ a o, Fre G ι a → H a = some o → Fre G' ι' a ∧ H' a = some o
theorem Tr.rd (t : Tr G ι H G' ι' H') {a : Addr} {u : HO} (h : Fre G ι a) (r : Rd H a u) : Rd H' a u ∧ Fre G' ι' a := by
  rcases r with r | ⟨o, r⟩
  · exact ⟨.inl (t.fr a _ h r).2, (t.fr a _ h r).1⟩
  · exact ⟨.inr ⟨o, (t.fr a _ h r).2⟩, (t.fr a _ h r).1⟩
theorem TupAt.tr (t : Tr G ι H G' ι' H') {a : Addr} {xs : List V} (q : TupAt G ι H a xs) : TupAt G' ι' H' a xs := by
  rcases q with ⟨r, n⟩ | k
  · exact .inl (t.rd n r)
  · right
    rw [t.k]
    exact k
theorem InpAt.tr (t : Tr G ι H G' ι' H') {a : Addr} {xs : List V} (q : InpAt G ι H a xs) : InpAt G' ι' H' a xs := by
  rcases q with ⟨r, n⟩ | k
  · exact .inl (t.rd n r)
  · right
    rw [t.k]
    exact k
mutual
theorem Rep.tr (t : Tr G ι H G' ι' H') {d : D} {v : V} : Rep G ι H d v → Rep G' ι' H' d v
  | .non => .non
  | .bl b => .bl b
  | .int i => .int i
  | .str s h => .str s h
  | .tup q z r => .tup (q.tr t) z (Reps.tr t r)
  | .lst q n z r => .lst (t.fr _ _ n q).2 (t.fr _ _ n q).1 z (Reps.tr t r)
  | .dic q n z r => .dic (t.fr _ _ n q).2 (t.fr _ _ n q).1 z (RepK.tr t r)
  | .ref h => .ref (t.at_ _ _ h)
  | .inp q z r => .inp (q.tr t) z (Reps.tr t r)
theorem Reps.tr (t : Tr G ι H G' ι' H') {d : List D} {v : List V} : Reps G ι H d v → Reps G' ι' H' d v
  | .nil => .nil
  | .cons h r => .cons (Rep.tr t h) (Reps.tr t r)
theorem RepK.tr (t : Tr G ι H G' ι' H') {d : List (D × D)} {v : List (Key × V)} : RepK G ι H d v → RepK G' ι' H' d v
  | .nil => .nil
  | .cons e hk h r => .cons e (Rep.tr t hk) (Rep.tr t h) (RepK.tr t r)
end
theorem RepF.tr (t : Tr G ι H G' ι' H') {d : List (Str × D)} {v : List (Str × V)} : RepF G ι H d v → RepF G' ι' H' d v
  | .nil => .nil
  | .cons h r => .cons (h.tr t) (RepF.tr t r)
theorem EnvR.tr (t : Tr G ι H G' ι' H') {e : Ev} {σ : L2.St} (r : EnvR G ι H e σ) : EnvR G' ι' H' e σ :=
  ⟨r.len, fun i d h => let ⟨v, h1, h2⟩ := r.at_ i d h; ⟨v, h1, h2.tr t⟩⟩
theorem CellR.tr (t : Tr G ι H G' ι' H') (hca : G'.ca = G.ca) (hnc : G'.nc = G.nc) {c : Cell} {a : Addr} (r : CellR G ι H c a) (e : H' a = H a) : CellR G' ι' H' c a := by
  cases c with
  | lst xs => obtain ⟨vs, h, z, q⟩ := r; exact ⟨vs, by rw [e, h], z, q.tr t⟩
  | dic kvs => obtain ⟨vs, h, z, q⟩ := r; exact ⟨vs, by rw [e, h], z, q.tr t⟩
  | fro xs => obtain ⟨vs, h, z, q⟩ := r; exact ⟨vs, by unfold Rd; rw [e]; exact h, z, q.tr t⟩
  | ins c fs => obtain ⟨hc, dx, vs, h, z, q⟩ := r; exact ⟨by rw [hnc]; exact hc, dx, vs, by rw [e, h, hca], z, q.tr t⟩
end

/-! ### what is walked, and its items -/
/-- the walked cells are as they were -/
def Gds (S1 S2 : Store) (ds : List D) : Prop := S2 = S1 ∨ guard S1 S2 ds = true
def Wk (G : Cn) (ι1 : List Addr) (H1 : Hp) (S1 : Store) (ds : List D) (xs : List D) (J : It) : Prop :=
  ∃ (Gd : Hp → Prop) (Y : Nat → Hp → V → Hp → Prop), Walk J xs.length Gd Y ∧ (∀ ι' S2 H', Tr G ι1 H1 G ι' H' → SR G ι' S2 H' → Gds S1 S2 ds → Gd H') ∧
    ∀ (i : Nat) (H' : Hp) (x : V) (H'' : Hp) (ι' : List Addr) (S2 : Store) (d : D), xs[i]? = some d → Tr G ι1 H1 G ι' H' → SR G ι' S2 H' → Gds S1 S2 ds → Y i H' x H'' → Ext ι' H' ι' H'' ∧ SR G ι' S2 H'' ∧ Rep G ι' H'' d x
/-- the same whatever is hidden more -/
def WkA (G : Cn) (ι1 : List Addr) (H1 : Hp) (S1 : Store) (ds : List D) (xs : List D) (J : It) : Prop :=
  ∀ (G' : Cn) (ι2 : List Addr) (H2 : Hp), G'.K = G.K → SR G' ι2 S1 H2 → (∀ d v, Rep G ι1 H1 d v → Rep G' ι2 H2 d v) → Wk G' ι2 H2 S1 ds xs J
def rdI (G : Cn) (f : AF) (k : IK) : TI := fun σ H R => ∃ ι e S ds S' xs, EnvR G ι H e σ ∧ SR G ι S H ∧ f e S = some (ds, S') ∧ items k S' ds = some xs ∧
  ∀ J H1 ι1, Ext ι H ι1 H1 → SR G ι1 S' H1 → WkA G ι1 H1 S' ds xs J → R J H1
section
variable {X : Cx} {G : Cn} {e a b c o i tg : Expr} {es : List Expr} {f fa fb fc : EF} {fs : AF} {pos p2 p tpos : Pos}
theorem PI.mono {t t' : TI} (h : PI X tg e t) (w : ∀ σ H Q, t' σ H Q → t σ H Q) : PI X tg e t' := ⟨fun pins s σ H Q I q => h.run pins s σ H Q I (w σ H Q q)⟩
theorem PI.pick {t' : TI} (w : ∀ σ H Q, t' σ H Q → ∃ t, PI X tg e t ∧ t σ H Q) : PI X tg e t' := ⟨fun pins s σ H Q I q => let ⟨_, h, q'⟩ := w σ H Q q; h.run pins s σ H Q I q'⟩

theorem lst_src {ι1 : List Addr} {H1 : Hp} {S1 : Store} {d : D} {v : V} {xs : List D} (sr : SR G ι1 S1 H1) (r : Rep G ι1 H1 d v) (e : deref S1 d = .lst xs) :
    ∃ a, v = .ref a ∧ ∀ ι' S2 H', Tr G ι1 H1 G ι' H' → SR G ι' S2 H' → guard1 S1 S2 d = true → ∃ vs, Rd H' a (.lst vs) ∧ Reps G ι' H' xs vs := by
  cases r with
  | lst t n z r =>
    simp [deref] at e
    subst e
    exact ⟨_, rfl, fun ι' S2 H' x sr' _ => ⟨_, .inl (x.fr _ _ n t).2, r.tr x⟩⟩
  | @ref n ad h =>
    refine ⟨ad, rfl, fun ι' S2 H' x sr' g => ?_⟩
    simp only [deref] at e
    split at e
    · rename_i ys hy
      cases e
      simp only [guard1, hy] at g
      cases h2 : S2[n]? with
      | none => rw [h2] at g; cases g
      | some c' =>
        rw [h2] at g
        have := Cell.same_eq _ _ g
        subst this
        obtain ⟨b, hb, vs, q, z, r⟩ := sr'.cell n _ h2
        rw [x.at_ _ _ h] at hb
        cases hb
        exact ⟨vs, .inl q, r⟩
    · cases e
    · rename_i ys hy
      cases e
      simp only [guard1, hy] at g
      cases h2 : S2[n]? with
      | none => rw [h2] at g; cases g
      | some c' =>
        rw [h2] at g
        have := Cell.same_eq _ _ g
        subst this
        obtain ⟨b, hb, vs, q, z, r⟩ := sr'.cell n _ h2
        rw [x.at_ _ _ h] at hb
        cases hb
        exact ⟨vs, q, r⟩
    · cases e
  | _ => simp [deref] at e
theorem walk_list' {K : PySem.W.Frag} {a : Addr} {n : Nat} : Walk (Itl K a) n (fun H => ∃ vs, SqL K H a vs ∧ vs.length = n) (fun i H x H' => H' = H ∧ ∀ vs, SqL K H a vs → vs[i]? = some x) := by
  refine ⟨fun i H hi q => ?_, fun H q => ?_, fun i H x H' _ q y => y⟩
  · obtain ⟨vs, q, rfl⟩ := q
    exact ⟨vs, vs[i], q, by simp [hi]⟩
  · obtain ⟨vs, q, rfl⟩ := q
    exact ⟨vs, q, Nat.le_refl _⟩
theorem walk_enum' {K : PySem.W.Frag} {a : Addr} {n : Nat} : Walk (Ite K a) n (fun H => ∃ vs, SqL K H a vs ∧ vs.length = n) (fun i H v H' => ∃ T x, v = .ref T ∧ H T = none ∧ H' = upd H T (.tup [.int (i : Nat), x]) ∧ ∀ vs, SqL K H a vs → vs[i]? = some x) := by
  refine ⟨fun i H hi q => ?_, fun H q => ?_, fun i H x H' _ q y => y⟩
  · obtain ⟨vs, q, rfl⟩ := q
    exact ⟨vs, vs[i], q, by simp [hi]⟩
  · obtain ⟨vs, q, rfl⟩ := q
    exact ⟨vs, q, Nat.le_refl _⟩
theorem guard_same {S1 : Store} {d : D} {xs : List D} (e : deref S1 d = .lst xs) : guard1 S1 S1 d = true := by
  cases d with
  | ref n =>
    simp only [deref] at e
    cases h : S1[n]? with
    | none => rw [h] at e; cases e
    | some c => simp only [guard1, h]; exact Cell.same_refl c
  | _ => rfl
theorem guard_one {S1 S2 : Store} {d : D} {xs : List D} (e : deref S1 d = .lst xs) (h : Gds S1 S2 [d]) : guard1 S1 S2 d = true := by
  rcases h with rfl | h
  · exact guard_same e
  · simpa [guard] using h
theorem guard_two {S1 S2 : Store} {d d' : D} {xs ys : List D} (e : deref S1 d = .lst xs) (e' : deref S1 d' = .lst ys) (h : Gds S1 S2 [d, d']) : guard1 S1 S2 d = true ∧ guard1 S1 S2 d' = true := by
  rcases h with rfl | h
  · exact ⟨guard_same e, guard_same e'⟩
  · simpa [guard] using h
/-- a walk over a list -/
theorem wk_lst {ι1 : List Addr} {H1 : Hp} {S1 : Store} {d : D} {v : V} {xs : List D} (sr : SR G ι1 S1 H1) (r : Rep G ι1 H1 d v) (e : deref S1 d = .lst xs) : ∃ a vs, v = .ref a ∧ SqL G.K H1 a vs ∧ Wk G ι1 H1 S1 [d] xs (Itl G.K a) := by
  obtain ⟨a, rfl, h⟩ := lst_src sr r e
  obtain ⟨a', vs, ea, t, z, q⟩ := view_lst sr r e
  cases ea
  refine ⟨a, vs, rfl, .inl t, _, _, walk_list' (n := xs.length), fun ι' S2 H' x sr' g => ?_, fun i H' w H'' ι' S2 d' hd x sr' g y => ?_⟩
  · obtain ⟨vs', t', q'⟩ := h ι' S2 H' x sr' (guard_one e g)
    exact ⟨vs', .inl t', q'.length.symm⟩
  · obtain ⟨rfl, y⟩ := y
    obtain ⟨vs', t', q'⟩ := h ι' S2 _ x sr' (guard_one e g)
    obtain ⟨u, hu, ru⟩ := q'.get hd
    have := y vs' (.inl t')
    rw [hu] at this
    cases this
    exact ⟨Ext.refl, sr', ru⟩
theorem pair_new {ι' : List Addr} {H' : Hp} {S2 : Store} (sr : SR G ι' S2 H') {T : Addr} (hT : H' T = none) {d1 d2 : D} {x y : V} (r1 : Rep G ι' H' d1 x) (r2 : Rep G ι' H' d2 y) :
    Ext ι' H' ι' (upd H' T (.tup [x, y])) ∧ SR G ι' S2 (upd H' T (.tup [x, y])) ∧ Rep G ι' (upd H' T (.tup [x, y])) (.tup [d1, d2]) (.ref T) := by
  have x' := new_ext sr hT (.tup [x, y])
  refine ⟨x', new_sr sr hT _, .tup (.inl ⟨.inl upd_same, sr.fre hT⟩) (by show 2 ≤ sizeLine; decide) (.cons (r1.ext x') (.cons (r2.ext x') .nil))⟩
theorem wk_enum_lst {ι1 : List Addr} {H1 : Hp} {S1 : Store} {d : D} {v : V} {xs : List D} (sr : SR G ι1 S1 H1) (r : Rep G ι1 H1 d v) (e : deref S1 d = .lst xs) :
    ∃ a vs, v = .ref a ∧ SqL G.K H1 a vs ∧ Wk G ι1 H1 S1 [d] ((List.range xs.length).zipWith (fun i x => D.tup [.int (i : Nat), x]) xs) (Ite G.K a) := by
  obtain ⟨a, rfl, h⟩ := lst_src sr r e
  obtain ⟨a', vs, ea, t, z, q⟩ := view_lst sr r e
  cases ea
  have hl : ((List.range xs.length).zipWith (fun i x => D.tup [.int ((i : Nat) : Int), x]) xs).length = xs.length := by simp
  refine ⟨a, vs, rfl, .inl t, _, _, by rw [hl]; exact walk_enum' (n := xs.length), fun ι' S2 H' x sr' g => ?_, fun i H' w H'' ι' S2 d' hd x sr' g y => ?_⟩
  · obtain ⟨vs', t', q'⟩ := h ι' S2 H' x sr' (guard_one e g)
    exact ⟨vs', .inl t', q'.length.symm⟩
  · obtain ⟨T, u, rfl, hT, rfl, y⟩ := y
    obtain ⟨vs', t', q'⟩ := h ι' S2 _ x sr' (guard_one e g)
    rw [List.getElem?_zipWith] at hd
    cases hx : xs[i]? with
    | none => rw [hx] at hd; cases h2 : (List.range xs.length)[i]? <;> rw [h2] at hd <;> cases hd
    | some dx =>
      have hi : i < xs.length := (List.getElem?_eq_some_iff.mp hx).1
      rw [hx, List.getElem?_range hi] at hd
      simp only [Option.some.injEq] at hd
      subst hd
      obtain ⟨u', hu, ru⟩ := q'.get hx
      have := y vs' (.inl t')
      rw [hu] at this
      cases this
      exact pair_new sr' hT (.int _) ru
theorem tup_src {ι1 : List Addr} {H1 : Hp} {S1 : Store} {d : D} {v : V} {xs : List D} (sr : SR G ι1 S1 H1) (r : Rep G ι1 H1 d v) (e : deref S1 d = .tup xs) :
    ∃ a vs, v = .ref a ∧ Reps G ι1 H1 xs vs ∧ SqT G.K H1 a vs ∧ ∀ ι' H', Tr G ι1 H1 G ι' H' → SqT G.K H' a vs := by
  obtain ⟨a, vs, rfl, t, z, q⟩ := view_tup sr r e
  exact ⟨a, vs, rfl, q, t.sq, fun ι' H' x => (t.tr x).sq⟩
theorem wk_tup {ι1 : List Addr} {H1 : Hp} {S1 : Store} {d : D} {v : V} {xs : List D} (sr : SR G ι1 S1 H1) (r : Rep G ι1 H1 d v) (e : deref S1 d = .tup xs) : ∃ a vs, v = .ref a ∧ SqT G.K H1 a vs ∧ Wk G ι1 H1 S1 [d] xs (Itt G.K a) := by
  obtain ⟨a, vs, rfl, q, t, h⟩ := tup_src sr r e
  refine ⟨a, vs, rfl, t, _, _, by rw [q.length]; exact walk_tup (xs := vs), fun ι' S2 H' x sr' g => h ι' H' x, fun i H' w H'' ι' S2 d' hd x sr' g y => ?_⟩
  obtain ⟨rfl, y⟩ := y
  obtain ⟨u, hu, ru⟩ := q.get hd
  rw [hu] at y
  cases y
  exact ⟨Ext.refl, sr', ru.tr x⟩
theorem wk_enum_tup {ι1 : List Addr} {H1 : Hp} {S1 : Store} {d : D} {v : V} {xs : List D} (sr : SR G ι1 S1 H1) (r : Rep G ι1 H1 d v) (e : deref S1 d = .tup xs) :
    ∃ a vs, v = .ref a ∧ SqT G.K H1 a vs ∧ Wk G ι1 H1 S1 [d] ((List.range xs.length).zipWith (fun i x => D.tup [.int (i : Nat), x]) xs) (IteT G.K a) := by
  obtain ⟨a, vs, rfl, q, t, h⟩ := tup_src sr r e
  have hl : ((List.range xs.length).zipWith (fun i x => D.tup [.int ((i : Nat) : Int), x]) xs).length = vs.length := by simp [q.length]
  refine ⟨a, vs, rfl, t, _, _, by rw [hl]; exact walk_enumT (xs := vs), fun ι' S2 H' x sr' g => h ι' H' x, fun i H' w H'' ι' S2 d' hd x sr' g y => ?_⟩
  obtain ⟨T, u1, u, rfl, hT, rfl, y1, y⟩ := y
  cases y1
  rw [List.getElem?_zipWith] at hd
  cases hx : xs[i]? with
  | none => rw [hx] at hd; cases h2 : (List.range xs.length)[i]? <;> rw [h2] at hd <;> cases hd
  | some dx =>
    have hi : i < xs.length := (List.getElem?_eq_some_iff.mp hx).1
    rw [hx, List.getElem?_range hi] at hd
    simp only [Option.some.injEq] at hd
    subst hd
    obtain ⟨u', hu, ru⟩ := q.get hx
    have y : vs[i]? = some u := y
    rw [hu] at y
    cases y
    exact pair_new sr' hT (.int _) (ru.tr x)
theorem wk_str {ι1 : List Addr} {H1 : Hp} {S1 : Store} {d : D} {z : Str} (hz : StrG z) : Wk G ι1 H1 S1 [d] (z.cps.toList.map fun c => D.str ⟨#[c]⟩) (Its z) := by
  have hl : (z.cps.toList.map fun c => D.str ⟨#[c]⟩).length = z.cps.size := by simp
  refine ⟨_, _, by rw [hl]; exact walk_str (z := z), fun ι' S2 H' x sr' g => trivial, fun i H' w H'' ι' S2 d' hd x sr' g y => ?_⟩
  obtain ⟨rfl, c, hc, rfl⟩ := y
  rw [List.getElem?_map, Array.getElem?_toList, hc] at hd
  simp only [Option.map_some, Option.some.injEq] at hd
  subst hd
  refine ⟨Ext.refl, sr', .str _ ⟨?_, by show (1 : Nat) ≤ sizeLine; decide⟩⟩
  have hm : c ∈ z.cps := Array.mem_of_getElem? hc
  have := Array.all_eq_true_iff_forall_mem.mp hz.1 c hm
  show (#[c].all _) = true
  simpa using this
theorem rng_get {lo hi : Int} {i : Nat} {d : D} (h : (rng lo hi)[i]? = some d) : d = .int (lo + (i : Nat)) := by
  unfold rng at h
  rw [List.getElem?_map] at h
  cases h2 : (List.range (hi - lo).toNat)[i]? with
  | none => rw [h2] at h; cases h
  | some j =>
    rw [h2] at h
    obtain ⟨hlt, e⟩ := List.getElem?_eq_some_iff.mp h2
    simp at e
    subst e
    simpa using h.symm
theorem wk_rng {ι1 : List Addr} {H1 : Hp} {S1 : Store} {ds : List D} {lo hi : Int} : Wk G ι1 H1 S1 ds (rng lo hi) (Itr lo (hi - lo).toNat) := by
  have hl : (rng lo hi).length = (hi - lo).toNat := by simp [rng]
  refine ⟨_, _, by rw [hl]; exact walk_range, fun ι' S2 H' x sr' g => trivial, fun i H' w H'' ι' S2 d' hd x sr' g y => ?_⟩
  obtain ⟨rfl, rfl⟩ := y
  rw [rng_get hd]
  exact ⟨Ext.refl, sr', .int _⟩

/-- for x in e -/
theorem sdi_seq (hK : X.K = G.K) (ha : Sd G X a fa) (hf : ∀ σ S, fs σ S = (fa σ S).bind fun r => some ([r.1], r.2)) : PI X tg a (rdI G fs .seq) :=
  PI.pick fun σ H R ⟨ι, en, S, ds, S', xs, er, sr, h1, h2, c⟩ => by
    rw [hf] at h1
    obtain ⟨⟨d, S1⟩, h1', hb⟩ := bind_some h1
    simp only [Option.some.injEq, Prod.mk.injEq] at hb
    obtain ⟨rfl, rfl⟩ := hb
    simp only [items] at h2
    cases hq : deref S1 d with
    | tup ys =>
      rw [hq] at h2
      simp only [Option.some.injEq] at h2
      subst h2
      refine ⟨_, pi_tup ha, ι, en, S, d, S1, er, sr, h1', fun v H1 ι1 x1 sr1 r1 => ?_⟩
      obtain ⟨ad, vs, rfl, t, w⟩ := wk_tup sr1 r1 hq
      refine ⟨ad, rfl, ⟨vs, hK ▸ t⟩, c _ _ _ x1 sr1 fun G' ι2 H2 hk sr2 up => ?_⟩
      obtain ⟨ad', vs', e', t', w'⟩ := wk_tup sr2 (up _ _ r1) hq
      cases e'
      rw [hK, ← hk]
      exact w'
    | lst ys =>
      rw [hq] at h2
      simp only [Option.some.injEq] at h2
      subst h2
      refine ⟨_, pi_list ha, ι, en, S, d, S1, er, sr, h1', fun v H1 ι1 x1 sr1 r1 => ?_⟩
      obtain ⟨ad, vs, rfl, t, w⟩ := wk_lst sr1 r1 hq
      refine ⟨ad, rfl, ⟨vs, hK ▸ t⟩, c _ _ _ x1 sr1 fun G' ι2 H2 hk sr2 up => ?_⟩
      obtain ⟨ad', vs', e', t', w'⟩ := wk_lst sr2 (up _ _ r1) hq
      cases e'
      rw [hK, ← hk]
      exact w'
    | str z =>
      rw [hq] at h2
      simp only [Option.some.injEq] at h2
      subst h2
      refine ⟨_, pi_str ha, ι, en, S, d, S1, er, sr, h1', fun v H1 ι1 x1 sr1 r1 => ?_⟩
      obtain ⟨rfl, hz⟩ := view_str r1 hq
      exact ⟨z, rfl, c _ _ _ x1 sr1 fun G' ι2 H2 hk sr2 up => wk_str hz⟩
    | _ => rw [hq] at h2; cases h2
/-- for x in range(e) -/
theorem okRng_iff {a b : Int} (h : okRng a b = true) : -(2 ^ 62) ≤ a ∧ a < 2 ^ 62 ∧ -(2 ^ 62) ≤ b ∧ b < 2 ^ 62 ∧ (b - a).toNat ≤ sizeLine := by
  unfold okRng at h
  simp only [Bool.and_eq_true, decide_eq_true_eq] at h
  rw [LIM_eq] at h
  exact ⟨h.1.1.1.1, h.1.1.1.2, h.1.1.2, h.1.2, h.2⟩
theorem sdi_rng1 (hg : Gl X "range") (hm : X.mg "range" = none) (ha : Sda G X [a] fs) (hs : starEach [a] X.env = [(false, eval a X.env)]) : PI X tg (.Call (.Name "range" p) [a] [] pos) (rdI G fs .rng1) :=
  PI.mono (pi_range1 hg hm ha hs) fun σ H R ⟨ι, en, S, ds, S', xs, er, sr, h1, h2, c⟩ => by
    refine ⟨ι, en, S, ds, S', er, sr, h1, fun vs H1 ι1 x1 sr1 r1 => ?_⟩
    match ds, r1, h2 with
    | [.int b], .cons (.int _) .nil, h2 =>
      simp only [items] at h2
      split at h2
      · rename_i hz
        simp only [Option.some.injEq] at h2
        subst h2
        obtain ⟨_, _, z1, z2, _⟩ := okRng_iff hz
        refine ⟨b, rfl, z1, z2, ?_⟩
        refine c _ _ _ x1 sr1 fun G' ι2 H2 hk sr2 up => ?_
        have := wk_rng (G := G') (ι1 := ι2) (H1 := H2) (S1 := S') (ds := [.int b]) (lo := 0) (hi := b)
        rw [Int.sub_zero] at this
        exact this
      · cases h2
theorem sdi_rng2 (hg : Gl X "range") (hm : X.mg "range" = none) (ha : Sda G X [a, b] fs) (hs : starEach [a, b] X.env = [(false, eval a X.env), (false, eval b X.env)]) (hs2 : starEach [b] X.env = [(false, eval b X.env)]) : PI X tg (.Call (.Name "range" p) [a, b] [] pos) (rdI G fs .rng2) :=
  PI.mono (pi_range2 hg hm ha hs hs2) fun σ H R ⟨ι, en, S, ds, S', xs, er, sr, h1, h2, c⟩ => by
    refine ⟨ι, en, S, ds, S', er, sr, h1, fun vs H1 ι1 x1 sr1 r1 => ?_⟩
    match ds, r1, h2 with
    | [.int b, .int b'], .cons (.int _) (.cons (.int _) .nil), h2 =>
      simp only [items] at h2
      split at h2
      · rename_i hz
        simp only [Option.some.injEq] at h2
        subst h2
        obtain ⟨z1, z2, z3, z4, _⟩ := okRng_iff hz
        exact ⟨b, b', rfl, ⟨z1, z2, z3, z4⟩, c _ _ _ x1 sr1 fun G' ι2 H2 hk sr2 up => wk_rng⟩
      · cases h2
theorem sdi_enum {elts : List Expr} {kk : Nat} (hK : X.K = G.K) (hg : Gl X "enumerate") (hm : X.mg "enumerate" = none) (ha : Sda G X [a] fs) (hs : starEach [a] X.env = [(false, eval a X.env)]) : PI X (.Tuple elts kk tpos) (.Call (.Name "enumerate" p) [a] [] pos) (rdI G fs .enum) :=
  PI.pick fun σ H R ⟨ι, en, S, ds, S', xs, er, sr, h1, h2, c⟩ => by
    cases ds with
    | nil => simp [items] at h2
    | cons d dr =>
      cases dr with
      | cons _ _ => simp [items] at h2
      | nil =>
        simp only [items] at h2
        cases hq : deref S' d with
        | tup ys =>
          rw [hq] at h2
          simp only [seqOf, Option.map_some, Option.some.injEq] at h2
          subst h2
          refine ⟨_, pi_enumT hg hm ha hs, ι, en, S, [d], S', er, sr, h1, fun vs H1 ι1 x1 sr1 r1 => ?_⟩
          cases r1 with
          | cons r1 rr =>
            cases rr
            obtain ⟨ad, ws, rfl, t, w⟩ := wk_enum_tup sr1 r1 hq
            refine ⟨ad, ws, rfl, hK ▸ t, c _ _ _ x1 sr1 fun G' ι2 H2 hk sr2 up => ?_⟩
            obtain ⟨ad', vs', e', t', w'⟩ := wk_enum_tup sr2 (up _ _ r1) hq
            cases e'
            rw [hK, ← hk]
            exact w'
        | lst ys =>
          rw [hq] at h2
          simp only [seqOf, Option.map_some, Option.some.injEq] at h2
          subst h2
          refine ⟨_, pi_enum hg hm ha hs, ι, en, S, [d], S', er, sr, h1, fun vs H1 ι1 x1 sr1 r1 => ?_⟩
          cases r1 with
          | cons r1 rr =>
            cases rr
            obtain ⟨ad, ws, rfl, t, w⟩ := wk_enum_lst sr1 r1 hq
            refine ⟨ad, ws, rfl, hK ▸ t, c _ _ _ x1 sr1 fun G' ι2 H2 hk sr2 up => ?_⟩
            obtain ⟨ad', vs', e', t', w'⟩ := wk_enum_lst sr2 (up _ _ r1) hq
            cases e'
            rw [hK, ← hk]
            exact w'
        | _ => rw [hq] at h2; cases h2
theorem walk_zipT {K : PySem.W.Frag} {a b : Addr} {xs ys : List V} {n : Nat} (hn : n = min xs.length ys.length) : Walk (ItzT K a b) n (fun H => SqT K H a xs ∧ SqT K H b ys) (YPair (fun i => xs[i]?) (fun i => ys[i]?)) := by
  subst hn
  refine ⟨fun i _ hi q => ?_, fun _ q => ⟨xs, ys, q.1, q.2, by omega⟩, fun i H v H' _ q y => ?_⟩
  · have h1 : i < xs.length := by omega
    have h2 : i < ys.length := by omega
    exact ⟨xs, ys, xs[i], ys[i], q.1, q.2, by simp [h1], by simp [h2]⟩
  · obtain ⟨T, x, z, h1, h2, h3, h4, h5⟩ := y
    exact ⟨T, x, z, h1, h2, h3, h4 xs q.1, h5 ys q.2⟩
theorem walk_zip' {K : PySem.W.Frag} {a b : Addr} {n m : Nat} : Walk (Itz K a b) (min n m) (fun H => (∃ vs, SqL K H a vs ∧ vs.length = n) ∧ ∃ vs, SqL K H b vs ∧ vs.length = m)
    (fun i H v H' => ∃ T x y, v = .ref T ∧ H T = none ∧ H' = upd H T (.tup [x, y]) ∧ (∀ vs, SqL K H a vs → vs[i]? = some x) ∧ ∀ vs, SqL K H b vs → vs[i]? = some y) := by
  refine ⟨fun i H hi q => ?_, fun H q => ?_, fun i H x H' _ q y => y⟩
  · obtain ⟨⟨vs, q, rfl⟩, ws, q', rfl⟩ := q
    have h1 : i < vs.length := by omega
    have h2 : i < ws.length := by omega
    exact ⟨vs, ws, vs[i], ws[i], q, q', by simp [h1], by simp [h2]⟩
  · obtain ⟨⟨vs, q, rfl⟩, ws, q', rfl⟩ := q
    exact ⟨vs, ws, q, q', by omega⟩
theorem wk_zip_tup {ι1 : List Addr} {H1 : Hp} {S1 : Store} {d d' : D} {v u : V} {ys zs : List D} (sr : SR G ι1 S1 H1) (r1 : Rep G ι1 H1 d v) (r2 : Rep G ι1 H1 d' u) (hq : deref S1 d = .tup ys) (hq2 : deref S1 d' = .tup zs) :
    ∃ a1 a2 vs us, v = .ref a1 ∧ u = .ref a2 ∧ SqT G.K H1 a1 vs ∧ SqT G.K H1 a2 us ∧ Wk G ι1 H1 S1 [d, d'] (List.zipWith (fun x y => D.tup [x, y]) ys zs) (ItzT G.K a1 a2) := by
  obtain ⟨a1, vs1, rfl, q1, t1, k1⟩ := tup_src sr r1 hq
  obtain ⟨a2, vs2, rfl, q2, t2, k2⟩ := tup_src sr r2 hq2
  have hl : (List.zipWith (fun x y => D.tup [x, y]) ys zs).length = min vs1.length vs2.length := by simp [q1.length, q2.length]
  refine ⟨a1, a2, vs1, vs2, rfl, rfl, t1, t2, _, _, by rw [hl]; exact walk_zipT (xs := vs1) (ys := vs2) rfl, fun ι' S2 H' x sr' g => ?_, fun i H' w H'' ι' S2 d' hd x sr' g y => ?_⟩
  · exact ⟨k1 ι' H' x, k2 ι' H' x⟩
  obtain ⟨T, u1, u2, rfl, hT, rfl, y1, y2⟩ := y
  rw [List.getElem?_zipWith] at hd
  cases hx : ys[i]? with
  | none => rw [hx] at hd; cases hd
  | some dx =>
    cases hy : zs[i]? with
    | none => rw [hx, hy] at hd; cases hd
    | some dy =>
      rw [hx, hy] at hd
      simp only [Option.some.injEq] at hd
      subst hd
      obtain ⟨w1, hw1, rw1⟩ := q1.get hx
      obtain ⟨w2, hw2, rw2⟩ := q2.get hy
      have y1 : vs1[i]? = some u1 := y1
      have y2 : vs2[i]? = some u2 := y2
      rw [hw1] at y1
      rw [hw2] at y2
      cases y1
      cases y2
      exact pair_new sr' hT (rw1.tr x) (rw2.tr x)
theorem wk_zip_lst {ι1 : List Addr} {H1 : Hp} {S1 : Store} {d d' : D} {v u : V} {ys zs : List D} (sr : SR G ι1 S1 H1) (r1 : Rep G ι1 H1 d v) (r2 : Rep G ι1 H1 d' u) (hq : deref S1 d = .lst ys) (hq2 : deref S1 d' = .lst zs) :
    ∃ a1 a2 vs us, v = .ref a1 ∧ u = .ref a2 ∧ SqL G.K H1 a1 vs ∧ SqL G.K H1 a2 us ∧ Wk G ι1 H1 S1 [d, d'] (List.zipWith (fun x y => D.tup [x, y]) ys zs) (Itz G.K a1 a2) := by
  obtain ⟨a1, rfl, k1⟩ := lst_src sr r1 hq
  obtain ⟨a2, rfl, k2⟩ := lst_src sr r2 hq2
  obtain ⟨b1, vs1, e1, t1, _, q1⟩ := view_lst sr r1 hq
  cases e1
  obtain ⟨b2, vs2, e2, t2, _, q2⟩ := view_lst sr r2 hq2
  cases e2
  have hl : (List.zipWith (fun x y => D.tup [x, y]) ys zs).length = min ys.length zs.length := by simp
  refine ⟨a1, a2, vs1, vs2, rfl, rfl, .inl t1, .inl t2, _, _, by rw [hl]; exact walk_zip', fun ι' S2 H' x sr' g => ?_, fun i H' w H'' ι' S2 d' hd x sr' g y => ?_⟩
  · obtain ⟨v1, t1', q1'⟩ := k1 ι' S2 H' x sr' (guard_two hq hq2 g).1
    obtain ⟨v2, t2', q2'⟩ := k2 ι' S2 H' x sr' (guard_two hq hq2 g).2
    exact ⟨⟨v1, .inl t1', q1'.length.symm⟩, v2, .inl t2', q2'.length.symm⟩
  · obtain ⟨T, u1, u2, rfl, hT, rfl, y1, y2⟩ := y
    obtain ⟨v1, t1', q1'⟩ := k1 ι' S2 H' x sr' (guard_two hq hq2 g).1
    obtain ⟨v2, t2', q2'⟩ := k2 ι' S2 H' x sr' (guard_two hq hq2 g).2
    rw [List.getElem?_zipWith] at hd
    cases hx : ys[i]? with
    | none => rw [hx] at hd; cases hd
    | some dx =>
      cases hy : zs[i]? with
      | none => rw [hx, hy] at hd; cases hd
      | some dy =>
        rw [hx, hy] at hd
        simp only [Option.some.injEq] at hd
        subst hd
        obtain ⟨w1, hw1, rw1⟩ := q1'.get hx
        obtain ⟨w2, hw2, rw2⟩ := q2'.get hy
        have y1 := y1 v1 (.inl t1')
        have y2 := y2 v2 (.inl t2')
        rw [hw1] at y1
        rw [hw2] at y2
        cases y1
        cases y2
        exact pair_new sr' hT rw1 rw2
theorem sdi_zip {elts : List Expr} {kk : Nat} (hK : X.K = G.K) (hg : Gl X "zip") (hm : X.mg "zip" = none) (ha : Sda G X [a, b] fs) (hs : starEach [a, b] X.env = (false, eval a X.env) :: starEach [b] X.env) (hpl : (backTo pos (starEach [b] X.env)).any (·.1) = false) :
    PI X (.Tuple elts kk tpos) (.Call (.Name "zip" p) [a, b] [] pos) (rdI G fs .zip) :=
  PI.mono (pi_zipA hg hm ha hs hpl) fun σ H R ⟨ι, en, S, ds, S', xs, er, sr, h1, h2, c⟩ => by
    refine ⟨ι, en, S, ds, S', er, sr, h1, fun vs H1 ι1 x1 sr1 r1 => ?_⟩
    match ds, vs, r1, h2 with
    | [d, e], [v, u], .cons r1 (.cons r2 .nil), h2 =>
      simp only [items] at h2
      cases hq : deref S' d with
      | tup ys =>
        cases hq2 : deref S' e with
        | tup zs =>
          rw [hq, hq2] at h2
          simp only [Option.some.injEq] at h2
          subst h2
          obtain ⟨a1, a2, vs1, vs2, rfl, rfl, t1, t2, _⟩ := wk_zip_tup sr1 r1 r2 hq hq2
          refine ⟨a1, a2, vs1, vs2, rfl, .inr ⟨hK ▸ t1, hK ▸ t2, c (ItzT X.K a1 a2) _ _ x1 sr1 fun G' ι2 H2 hk sr2 up => ?_⟩⟩
          obtain ⟨b1, b2, _, _, e1, e2, _, _, w'⟩ := wk_zip_tup sr2 (up _ _ r1) (up _ _ r2) hq hq2
          cases e1
          cases e2
          rw [hK, ← hk]
          exact w'
        | _ => rw [hq, hq2] at h2; simp at h2
      | lst ys =>
        cases hq2 : deref S' e with
        | lst zs =>
          rw [hq, hq2] at h2
          simp only [Option.some.injEq] at h2
          subst h2
          obtain ⟨a1, a2, vs1, vs2, rfl, rfl, t1, t2, _⟩ := wk_zip_lst sr1 r1 r2 hq hq2
          refine ⟨a1, a2, vs1, vs2, rfl, .inl ⟨hK ▸ t1, hK ▸ t2, c (Itz X.K a1 a2) _ _ x1 sr1 fun G' ι2 H2 hk sr2 up => ?_⟩⟩
          obtain ⟨b1, b2, _, _, e1, e2, _, _, w'⟩ := wk_zip_lst sr2 (up _ _ r1) (up _ _ r2) hq hq2
          cases e1
          cases e2
          rw [hK, ← hk]
          exact w'
        | _ => rw [hq, hq2] at h2; simp at h2
      | _ => rw [hq] at h2; simp at h2
end
end Fw
end
section
set_option Elab.async false
set_option linter.all false
set_option autoImplicit false
set_option maxRecDepth 100000
set_option maxHeartbeats 4000000
/-! Fw9: targets, comprehensions. -/
namespace Fw
open PySem PySem.Spec PyProof.Rows L2

/-! ### a row that is being made -/
def Cn.hide (G : Cn) (D : Addr) : Cn := { G with hid := D :: G.hid }
section
variable {G : Cn} {ι : List Addr} {H : Hp} {S : Store} {D : Addr}
theorem hide_tr (o : HO) (hD : H D = none) : Tr G ι H (G.hide D) ι (upd H D o) :=
  ⟨rfl, fun _ _ h => h, fun a u f e => by
    have z : a ≠ D := fun z => by rw [z, hD] at e; cases e
    exact ⟨⟨f.1, fun m => by
      rcases List.mem_cons.mp m with w | w
      · exact z w
      · exact f.2 w⟩, by rw [upd_ne z]; exact e⟩⟩
theorem hide_sr (o : HO) (hD : H D = none) (sr : SR G ι S H) : SR (G.hide D) ι S (upd H D o) := by
  have ne : ∀ {a}, a ∈ ι → a ≠ D := fun {a} m z => sr.fresh hD (z ▸ m)
  refine ⟨sr.len, sr.nd, fun a m => ?_, fun n c e => ?_⟩
  · rcases List.mem_cons.mp m with w | w
    · rw [w]
      exact ⟨sr.fresh hD, o, upd_same⟩
    · obtain ⟨h1, u, e⟩ := sr.hid a w
      have z : a ≠ D := fun z => by rw [z, hD] at e; cases e
      exact ⟨h1, u, by rw [upd_ne z]; exact e⟩
  · obtain ⟨a, ea, r⟩ := sr.cell n c e
    exact ⟨a, ea, r.tr (hide_tr o hD) rfl rfl (upd_ne (ne (List.mem_of_getElem? ea)))⟩
/-- it is written -/
theorem put_tr (o : HO) : Tr (G.hide D) ι H (G.hide D) ι (upd H D o) :=
  ⟨rfl, fun _ _ h => h, fun a u f e => by
    have z : a ≠ D := fun z => f.2 (by rw [z]; exact List.mem_cons_self)
    exact ⟨f, by rw [upd_ne z]; exact e⟩⟩
theorem put_sr (o : HO) (sr : SR (G.hide D) ι S H) : SR (G.hide D) ι S (upd H D o) := by
  have hD : D ∉ ι := (sr.hid D List.mem_cons_self).1
  have ne : ∀ {a}, a ∈ ι → a ≠ D := fun {a} m z => hD (z ▸ m)
  refine ⟨sr.len, sr.nd, fun a m => ?_, fun n c e => ?_⟩
  · obtain ⟨h1, u, e⟩ := sr.hid a m
    refine ⟨h1, ?_⟩
    by_cases z : a = D
    · rw [z]; exact ⟨o, upd_same⟩
    · exact ⟨u, by rw [upd_ne z]; exact e⟩
  · obtain ⟨a, ea, r⟩ := sr.cell n c e
    exact ⟨a, ea, r.tr (put_tr o) rfl rfl (upd_ne (ne (List.mem_of_getElem? ea)))⟩
/-- it is done -/
theorem show_tr : Tr (G.hide D) ι H G ι H :=
  ⟨rfl, fun _ _ h => h, fun a u f e => ⟨⟨f.1, fun m => f.2 (List.mem_cons_of_mem _ m)⟩, e⟩⟩
theorem show_sr (sr : SR (G.hide D) ι S H) : SR G ι S H :=
  ⟨sr.len, sr.nd, fun a m => sr.hid a (List.mem_cons_of_mem _ m), fun n c e => by
    obtain ⟨a, ea, r⟩ := sr.cell n c e
    exact ⟨a, ea, r.tr show_tr rfl rfl rfl⟩⟩
theorem cell_tr : Tr (G.hide D) ι H G (ι ++ [D]) H :=
  ⟨rfl, fun n a h => by rw [List.getElem?_append_left (List.getElem?_eq_some_iff.mp h).1]; exact h, fun a u f e => ⟨⟨fun m => by
      rcases List.mem_append.mp m with m | m
      · exact f.1 m
      · exact f.2 (by rw [List.mem_singleton.mp m]; exact List.mem_cons_self), fun m => f.2 (List.mem_cons_of_mem _ m)⟩, e⟩⟩
theorem cellD_sr (hn : D ∉ G.hid) (sr : SR (G.hide D) ι S H) {c : Cell} (hc : CellR G (ι ++ [D]) H c D) : SR G (ι ++ [D]) (S ++ [c]) H := by
  have hD : D ∉ ι := (sr.hid D List.mem_cons_self).1
  refine ⟨by simp [sr.len], ?_, fun a m => ?_, fun n c' e => ?_⟩
  · rw [List.nodup_append]
    refine ⟨sr.nd, by simp, fun a ha b hb => ?_⟩
    rw [List.mem_singleton.mp hb]
    exact fun z => hD (z ▸ ha)
  · obtain ⟨h1, e⟩ := sr.hid a (List.mem_cons_of_mem _ m)
    refine ⟨fun w => ?_, e⟩
    rcases List.mem_append.mp w with w | w
    · exact h1 w
    · exact hn (by rw [← List.mem_singleton.mp w]; exact m)
  · by_cases hn : n < S.length
    · rw [List.getElem?_append_left hn] at e
      obtain ⟨a, ea, r⟩ := sr.cell n c' e
      exact ⟨a, (cell_tr (G := G) (H := H) (D := D)).at_ n a ea, r.tr cell_tr rfl rfl rfl⟩
    · have hl : n < (S ++ [c]).length := (List.getElem?_eq_some_iff.mp e).1
      simp only [List.length_append, List.length_singleton] at hl
      have en : n = S.length := by omega
      subst en
      rw [List.getElem?_append_right (Nat.le_refl _)] at e
      simp at e
      subst e
      refine ⟨D, ?_, hc⟩
      rw [← sr.len, List.getElem?_append_right (Nat.le_refl _)]
      simp
end

/-! ### targets -/
theorem EnvR.set {G : Cn} {ι : List Addr} {H : Hp} {e : Ev} {σ : L2.St} (r : EnvR G ι H e σ) {i : Nat} {d : D} {v : V} (q : Rep G ι H d v) : EnvR G ι H (e.set i (some d)) (σ.set i (some v)) := by
  refine ⟨by simp [r.len], fun j d' h => ?_⟩
  by_cases z : i = j
  · subst z
    have hi : i < e.length := by
      have := (List.getElem?_eq_some_iff.mp h).1
      simpa using this
    rw [List.getElem?_set_self hi] at h
    simp only [Option.some.injEq] at h
    subst h
    exact ⟨v, List.getElem?_set_self (by rw [← r.len]; exact hi), q⟩
  · rw [List.getElem?_set_ne z] at h
    obtain ⟨w, h1, h2⟩ := r.at_ j d' h
    exact ⟨w, by rw [List.getElem?_set_ne z]; exact h1, h2⟩
theorem EnvR.wipe {G : Cn} {ι : List Addr} {H : Hp} {e : Ev} {σ : L2.St} (r : EnvR G ι H e σ) (vs : List Nat) : EnvR G ι H (clr vs e) (L2.wipe σ vs) := by
  induction vs with
  | nil => exact r
  | cons i vs ih =>
    show EnvR G ι H ((clr vs e).set i none) ((L2.wipe σ vs).set i none)
    refine ⟨by simp [ih.len], fun j d' h => ?_⟩
    by_cases z : i = j
    · subst z
      have hi : i < (clr vs e).length := by
        have := (List.getElem?_eq_some_iff.mp h).1
        simpa using this
      rw [List.getElem?_set_self hi] at h
      simp at h
    · rw [List.getElem?_set_ne z] at h
      obtain ⟨w, h1, h2⟩ := ih.at_ j d' h
      exact ⟨w, by rw [List.getElem?_set_ne z]; exact h1, h2⟩
theorem wipe_get (σ : L2.St) (i : Nat) : ∀ vs : List Nat, (L2.wipe σ vs)[i]? = if i ∈ vs then (if i < σ.length then some none else none) else σ[i]?
  | [] => by simp [L2.wipe]
  | v :: vs => by
    show ((L2.wipe σ vs).set v none)[i]? = _
    rw [List.getElem?_set]
    by_cases z : v = i
    · subst z
      simp [L2.wipe_length]
    · rw [if_neg z, wipe_get σ i vs]
      have z' : ¬ i = v := fun w => z w.symm
      simp [z']
theorem wipe_set {σ : L2.St} {i : Nat} {x : Option V} {vs : List Nat} (h : i ∈ vs) : L2.wipe (σ.set i x) vs = L2.wipe σ vs := by
  apply List.ext_getElem?
  intro j
  rw [wipe_get, wipe_get]
  by_cases z : j ∈ vs
  · simp [z]
  · have : i ≠ j := fun w => z (w ▸ h)
    simp [z, List.getElem?_set_ne this]
theorem clr_length (e : Ev) : ∀ vs : List Nat, (clr vs e).length = e.length
  | [] => rfl
  | v :: vs => by
    show ((clr vs e).set v none).length = _
    rw [List.length_set, clr_length e vs]
theorem clr_out {e : Ev} {i : Nat} : ∀ {vs : List Nat}, i ∉ vs → (clr vs e)[i]? = e[i]?
  | [], _ => rfl
  | v :: vs, h => by
    show ((clr vs e).set v none)[i]? = _
    rw [List.getElem?_set_ne (fun z => h (by rw [z]; exact List.mem_cons_self)), clr_out fun m => h (List.mem_cons_of_mem _ m)]
theorem bindL_eq : ∀ {is : List Nat} {ds : List D} {e1 e2 : Ev}, e1.length = e2.length → (∀ j, j ∉ is → e1[j]? = e2[j]?) → bindL is ds e1 = bindL is ds e2
  | [], [], e1, e2, _, h => by
    have : e1 = e2 := List.ext_getElem? fun j => h j (by simp)
    rw [this]
  | [], _ :: _, _, _, _, _ => rfl
  | _ :: _, [], _, _, _, _ => rfl
  | i :: is, d :: ds, e1, e2, hl, h => by
    show bindL is ds (e1.set i (some d)) = bindL is ds (e2.set i (some d))
    refine bindL_eq (by simp [hl]) fun j hj => ?_
    by_cases z : i = j
    · subst z
      rw [List.getElem?_set, List.getElem?_set]
      simp [hl]
    · rw [List.getElem?_set_ne z, List.getElem?_set_ne z]
      refine h j fun m => ?_
      rcases List.mem_cons.mp m with w | w
      · exact z w.symm
      · exact hj w
theorem bindT_eq {t : T} {d : D} {e1 e2 : Ev} (hl : e1.length = e2.length) (h : ∀ j, j ∉ t.slots → e1[j]? = e2[j]?) : bindT t d e1 = bindT t d e2 := by
  cases t with
  | name i =>
    have := bindL_eq (is := [i]) (ds := [d]) hl h
    exact this
  | tup is =>
    cases d with
    | tup ds => exact bindL_eq hl h
    | _ => rfl
theorem bindT_clr {t : T} {d : D} {e : Ev} {vs : List Nat} (h : ∀ i ∈ vs, i ∈ t.slots) : bindT t d (clr vs e) = bindT t d e :=
  bindT_eq (clr_length e vs) fun j hj => clr_out fun m => hj (h j m)

def rdG (G : Cn) (t : T) : TG := fun v σ H Q => ∃ ι e d e', EnvR G ι H e σ ∧ Rep G ι H d v ∧ bindT t d e = some e' ∧ ∀ σ', EnvR G ι H e' σ' → (∀ vs, (∀ i ∈ t.slots, i ∈ vs) → L2.wipe σ' vs = L2.wipe σ vs) → Q σ' H
def rdGs (G : Cn) (is : List Nat) : TGs := fun vs σ H Q => ∃ ι e ds e', EnvR G ι H e σ ∧ Reps G ι H ds vs ∧ bindL is ds e = some e' ∧ ∀ σ', EnvR G ι H e' σ' → (∀ ws, (∀ i ∈ is, i ∈ ws) → L2.wipe σ' ws = L2.wipe σ ws) → Q σ' H
section
variable {X : Cx} {G : Cn} {pos p : Pos} {i : Nat} {is : List Nat} {x : Str} {es : List Expr}
theorem PG.mono {e : Expr} {t t' : TG} (h : PG X e t) (w : ∀ v σ H Q, t' v σ H Q → t v σ H Q) : PG X e t' := ⟨fun pins s σ H v u Q I r q => h.run pins s σ H v u Q I r (w v σ H Q q)⟩
theorem PGs.mono {e : List Expr} {t t' : TGs} (h : PGs X e t) (w : ∀ v σ H Q, t' v σ H Q → t v σ H Q) : PGs X e t' := ⟨fun pins s σ H v u Q I r q => h.run pins s σ H v u Q I r (w v σ H Q q)⟩
theorem sg_name (h : PG X (.Name x pos) (gName i)) : PG X (.Name x pos) (rdG G (.name i)) := PG.mono h fun v σ H Q ⟨ι, e, d, e', er, r, hb, c⟩ => by
  simp only [bindT, Option.some.injEq] at hb
  subst hb
  exact c _ (er.set r) fun vs hv => wipe_set (hv i (by simp [T.slots]))
theorem sgs_nil : PGs X [] (rdGs G []) := PGs.mono pgs_nil fun vs σ H Q ⟨ι, e, ds, e', er, r, hb, c⟩ => by
  cases r with
  | nil =>
    simp only [bindL, Option.some.injEq] at hb
    subst hb
    exact ⟨rfl, c _ er fun _ _ => rfl⟩
  | cons _ _ => simp [bindL] at hb
theorem sgs_cons (h : PG X (.Name x p) (gName i)) (hr : PGs X es (rdGs G is)) : PGs X (.Name x p :: es) (rdGs G (i :: is)) := PGs.mono (pgs_cons h hr) fun vs σ H Q ⟨ι, e, ds, e', er, r, hb, c⟩ => by
  cases r with
  | nil => simp [bindL] at hb
  | @cons d v ds vs q r =>
    refine ⟨v, vs, rfl, ι, _, ds, e', er.set q, r, hb, fun σ' er' hw => c σ' er' fun ws hws => ?_⟩
    rw [hw ws fun j hj => hws j (List.mem_cons_of_mem _ hj), wipe_set (hws i List.mem_cons_self)]
theorem sg_tup {k : Nat} (hK : X.K = G.K) (hc : X.calm = true) (h : PGs X es (rdGs G is)) (hn : (assignEach es X.env).length = is.length) (hst : (assignEach es X.env).findIdx? (·.1) = none) : PG X (.Tuple es k pos) (rdG G (.tup is)) :=
  PG.mono (pg_tup hc h hn hst) fun v σ H Q ⟨ι, e, d, e', er, r, hb, c⟩ => by
    cases r with
    | @tup a xs ds t z r =>
      have hl : ∀ {is : List Nat} {ds : List D} {e e' : Ev}, bindL is ds e = some e' → ds.length = is.length := by
        intro is
        induction is with
        | nil => intro ds e e' h; cases ds with | nil => rfl | cons _ _ => simp [bindL] at h
        | cons i is ih => intro ds e e' h; cases ds with | nil => simp [bindL] at h | cons d ds => simp [ih h]
      exact ⟨a, xs, rfl, hK ▸ t.sq, by rw [← r.length]; exact hl hb, ι, e, ds, e', er, r, hb, c⟩
    | _ => simp [bindT] at hb
end

/-! ### list comprehensions -/
abbrev CF := Ev → Store → Option (Bool × Store)
def rdC (G : Cn) (f : CF) : TT := fun σ H Q => ∃ ι e S b S', EnvR G ι H e σ ∧ SR G ι S H ∧ f e S = some (b, S') ∧ ∀ H' ι', Ext ι H ι' H' → SR G ι' S' H' → Q b H'
theorem PTs.mono {X : Cx} {e : List Expr} {t t' : TT} (h : PTs X e t) (w : ∀ σ H Q, t' σ H Q → t σ H Q) : PTs X e t' := ⟨fun pins s σ H Q I q => h.run pins s σ H Q I (w σ H Q q)⟩
theorem sdc_nil {X : Cx} {G : Cn} : PTs X [] (rdC G fun _ S => some (true, S)) := PTs.mono pts_nil fun σ H Q ⟨ι, e, S, b, S', er, sr, hf, c⟩ => by
  simp only [Option.some.injEq, Prod.mk.injEq] at hf
  obtain ⟨rfl, rfl⟩ := hf
  exact c _ _ Ext.refl sr
theorem sdc_one {X : Cx} {G : Cn} {c : Expr} {f : EF} (h : Sdt G X c f) : PTs X [c] (rdC G fun σ S => (f σ S).bind fun r => match r.1 with
    | .bl true => some (true, r.2)
    | .bl false => some (false, r.2)
    | _ => none) := PTs.mono (pts_one h) fun σ H Q ⟨ι, e, S, b, S', er, sr, hf, c⟩ => by
  obtain ⟨⟨x, S1⟩, h1, hf⟩ := bind_some hf
  cases x with
  | bl k =>
    refine ⟨ι, e, S, k, S1, er, sr, h1, fun H' ι' x' sr' => ?_⟩
    cases k <;> simp only [Option.some.injEq, Prod.mk.injEq] at hf <;> obtain ⟨rfl, rfl⟩ := hf <;> exact c _ _ x' sr'
  | _ => simp at hf
section
variable {G : Cn} {g : Store → Bool} {f : D → Store → Option (List D × Store)}
theorem compL_drop {xs : List D} {i : Nat} {S : Store} {r : List D × Store} {x : D} (hx : xs[i]? = some x) (h : compL g f (xs.drop i) S = some r) :
    ∃ y S1 rest, f x S = some (y, S1) ∧ g S1 = true ∧ compL g f (xs.drop (i + 1)) S1 = some (rest, r.2) ∧ r.1 = y ++ rest := by
  have hd : xs.drop i = x :: xs.drop (i + 1) := by
    obtain ⟨hi, e⟩ := List.getElem?_eq_some_iff.mp hx
    rw [← e]
    exact List.drop_eq_getElem_cons hi
  rw [hd] at h
  obtain ⟨⟨y, S1⟩, h1, h⟩ := bind_some h
  simp only at h
  split at h
  · rename_i hg
    obtain ⟨⟨q, S2⟩, h2, h⟩ := bind_some h
    simp only [Option.some.injEq] at h
    subst h
    exact ⟨y, S1, q, h1, hg, h2, rfl⟩
  · cases h
end

theorem wipe_wipe (σ : L2.St) (vs : List Nat) : L2.wipe (L2.wipe σ vs) vs = L2.wipe σ vs := by
  apply List.ext_getElem?
  intro j
  rw [wipe_get, wipe_get, L2.wipe_length]
  by_cases z : j ∈ vs
  · simp [z]
  · simp [z, wipe_get]
section
variable {G : Cn} {ι ι' ι1 : List Addr} {H H' H1 : Hp} {S S' S2 : Store} {D : Addr}
theorem Ext.hid (x : Ext ι1 H1 ι' H') (o : HO) (hD : H1 D = none) : Tr (G.hide D) ι1 (upd H1 D o) (G.hide D) ι' H' :=
  ⟨rfl, fun _ _ h => x.get h, fun a u f e => by
    have z : a ≠ D := fun z => f.2 (by rw [z]; exact List.mem_cons_self)
    rw [upd_ne z] at e
    exact ⟨⟨x.out f.1 e, f.2⟩, x.keep a u f.1 e⟩⟩
theorem Ext.app (x : Ext ι1 H1 ι' H') (hD : H1 D = none) : Ext ι1 H1 (ι' ++ [D]) H' := by
  obtain ⟨t, e, hn⟩ := x.pre
  refine ⟨⟨t ++ [D], by rw [e, List.append_assoc], fun a m => ?_⟩, x.keep, x.dom⟩
  rcases List.mem_append.mp m with m | m
  · exact hn a m
  · rw [List.mem_singleton.mp m]; exact hD
theorem Ext.put (x : Ext ι1 H1 ι' H') (hD : H1 D = none) (o : HO) : Ext ι1 H1 ι' (upd H' D o) :=
  ⟨x.pre, fun a u h e => by
    have z : a ≠ D := fun z => by rw [z, hD] at e; cases e
    rw [upd_ne z]; exact x.keep a u h e, fun a e => by
    by_cases z : a = D
    · rw [z]; exact hD
    · rw [upd_ne z] at e; exact x.dom a e⟩
theorem mk_done {cell : Bool} {ys : List Fw.D} {vs : List V} {d : Fw.D} (hn : D ∉ G.hid) (hH : H1 D = none) (x : Ext ι1 H1 ι' H') (sr : SR (G.hide D) ι' S2 H') (hD : H' D = some (.lst vs)) (r : Reps (G.hide D) ι' H' ys vs) (e : mk cell ys S2 = some (d, S')) :
    ∃ ι2, Ext ι1 H1 ι2 H' ∧ SR G ι2 S' H' ∧ Rep G ι2 H' d (.ref D) := by
  unfold mk at e
  split at e
  · rename_i hz
    rw [LIM_eq] at hz
    have hl : vs.length ≤ sizeLine := by rw [← r.length]; exact hz
    cases cell with
    | false =>
      simp only [Bool.false_eq_true, if_false, Option.some.injEq, Prod.mk.injEq] at e
      obtain ⟨rfl, rfl⟩ := e
      exact ⟨ι', x, show_sr sr, .lst hD ⟨(sr.hid D List.mem_cons_self).1, hn⟩ hl (r.tr show_tr)⟩
    | true =>
      simp only [if_true, Option.some.injEq, Prod.mk.injEq] at e
      obtain ⟨rfl, rfl⟩ := e
      refine ⟨ι' ++ [D], x.app hH, cellD_sr hn sr ⟨vs, hD, hl, r.tr cell_tr⟩, .ref ?_⟩
      rw [← sr.len, List.getElem?_append_right (Nat.le_refl _)]
      simp
  · cases e
theorem SR.nhid (sr : SR G ι S H) (hD : H D = none) : D ∉ G.hid := fun m => by
  obtain ⟨_, o, e⟩ := sr.hid D m
  rw [e] at hD; cases hD
end
def compF (t : T) (fs : AF) (k : IK) (fc : CF) (fe : EF) (cell : Bool) : EF := fun σ S => (fs σ S).bind fun r => (items k r.2 r.1).bind fun xs =>
  (compL (fun S' => guard r.2 S' r.1) (fun x S1 => (bindT t x σ).bind fun σ' => (fc σ' S1).bind fun b =>
        if b.1 then (fe σ' b.2).bind fun y => some ([y.1], y.2) else some ([], b.2)) xs r.2).bind fun q => mk cell q.1 q.2
def hG (G : Cn) (t : T) : TG := fun v σ H Q => ∃ D, rdG (G.hide D) t v σ H Q
def hC (G : Cn) (f : CF) : TT := fun σ H Q => ∃ D, rdC (G.hide D) f σ H Q
def hE (G : Cn) (f : EF) : TE := fun σ H Q => ∃ D, rd (G.hide D) f σ H Q
theorem lc_wish {G : Cn} {t : T} {fs : AF} {k : IK} {fc : CF} {fe : EF} {cell : Bool} {vs : List Nat} {σ : L2.St} {H : Hp} {Q : VK} (hvs : ∀ i ∈ vs, i ∈ t.slots) (hsv : ∀ i ∈ t.slots, i ∈ vs)
    (h : rd G (compF t fs k fc fe cell) σ H Q) : tLc (rdI G fs k) (hG G t) (hC G fc) (hE G fe) vs σ H Q := by
  obtain ⟨ι, e, S, d, S', er, sr, hf, c⟩ := h
  obtain ⟨⟨ds, S1⟩, h1, hf⟩ := bind_some hf
  obtain ⟨xs, h2, hf⟩ := bind_some hf
  obtain ⟨⟨ys, S2⟩, h3, hf⟩ := bind_some hf
  refine ⟨ι, e, S, ds, S1, xs, er, sr, h1, h2, fun J H1 ι1 x1 sr1 wk D hD => ?_⟩
  have sr1' := hide_sr (.lst []) hD sr1
  obtain ⟨Gd, Y, w, hGd, hY⟩ := wk (G.hide D) ι1 (upd H1 D (.lst [])) rfl sr1' fun d v r => r.tr (hide_tr _ hD)
  have er1 : EnvR (G.hide D) ι1 (upd H1 D (.lst [])) (clr vs e) (L2.wipe σ vs) := ((er.ext x1).tr (hide_tr _ hD)).wipe vs
  refine lc_it w (fun i H' => ∃ ι' Si acc ws rest, Ext ι1 H1 ι' H' ∧ SR (G.hide D) ι' Si H' ∧ H' D = some (.lst ws) ∧ Reps (G.hide D) ι' H' acc ws ∧ Gds S1 Si ds ∧
    compL (fun S' => guard S1 S' ds) (fun x S1 => (bindT t x e).bind fun σ' => (fc σ' S1).bind fun b =>
        if b.1 then (fe σ' b.2).bind fun y => some ([y.1], y.2) else some ([], b.2)) (xs.drop i) Si = some (rest, S2) ∧ acc ++ rest = ys)
    ⟨ι1, S1, [], [], ys, Ext.refl.put hD _, sr1', upd_same, .nil, .inl rfl, by simpa using h3, rfl⟩ ?_ ?_ ?_
  · rintro i H' _ ⟨ι', Si, acc, ws, rest, x2, sr2, _, _, g, _⟩
    exact hGd ι' Si H' (x2.hid _ hD) sr2 g
  · rintro i x H' H'' hi ⟨ι', Si, acc, ws, rest, x2, sr2, hD2, ra, g, hc, hacc⟩ hy
    have hx : xs[i]? = some xs[i] := List.getElem?_eq_getElem hi
    obtain ⟨x3, sr3, r3⟩ := hY i H' x H'' ι' Si xs[i] hx (x2.hid _ hD) sr2 g hy
    obtain ⟨y, Sy, rest', h4, hg', h5, h6⟩ := compL_drop hx hc
    obtain ⟨e', h7, h4⟩ := bind_some h4
    obtain ⟨⟨b, Sb⟩, h8, h4⟩ := bind_some h4
    have hDi : D ∉ ι' := (sr2.hid D List.mem_cons_self).1
    refine ⟨D, ι', clr vs e, xs[i], e', ((er1.tr (x2.hid _ hD)).ext x3), r3, by rw [bindT_clr hvs]; exact h7, fun σ2 er2 hw => ⟨by rw [hw vs hsv, wipe_wipe], D, ι', e', Si, b, Sb, er2, sr3, h8, fun H3 ι3 x4 sr4 => ?_⟩⟩
    have hD3 : H3 D = some (.lst ws) := x4.keep D _ hDi (x3.keep D _ hDi hD2)
    have x5 : Ext ι1 H1 ι3 H3 := x2.trans (x3.trans x4)
    have ra' := (ra.ext x3).ext x4
    simp only at h6
    cases b with
    | false =>
      simp only [Bool.false_eq_true, if_false, Option.some.injEq, Prod.mk.injEq] at h4 ⊢
      obtain ⟨rfl, rfl⟩ := h4
      exact ⟨ι3, Sb, acc, ws, rest', x5, sr4, hD3, ra', .inr hg', h5, by rw [← hacc, h6]; rfl⟩
    | true =>
      simp only [if_true] at h4 ⊢
      obtain ⟨⟨y1, Sy1⟩, h9, h4⟩ := bind_some h4
      simp only [Option.some.injEq, Prod.mk.injEq] at h4
      obtain ⟨rfl, rfl⟩ := h4
      refine ⟨D, ι3, e', Sb, y1, Sy1, er2.ext x4, sr4, h9, fun v H4 ι4 x6 sr5 r5 => ?_⟩
      have hD4 : H4 D = some (.lst ws) := x6.keep D _ (sr4.hid D List.mem_cons_self).1 hD3
      have hlen : acc.length + (1 + rest'.length) ≤ LIM := by
        have : ys.length ≤ LIM := by
          unfold mk at hf
          split at hf
          · assumption
          · cases hf
        rw [← hacc, h6] at this
        simp only [List.length_append, List.length_cons, List.length_nil] at this
        omega
      rw [LIM_eq] at hlen
      refine ⟨ws, hD4, by rw [← ra.length]; omega, ι4, Sy1, acc ++ [y1], ws ++ [v], rest', (x5.trans x6).put hD _, put_sr _ sr5, upd_same, ((ra'.ext x6).append (.cons r5 .nil)).tr (put_tr _), .inr hg', h5, by rw [← hacc, h6]; simp⟩
  · rintro H' ⟨ι', Si, acc, ws, rest, x2, sr2, hD2, ra, g, hc, hacc⟩
    rw [List.drop_length] at hc
    simp only [compL, Option.some.injEq, Prod.mk.injEq] at hc
    obtain ⟨rfl, rfl⟩ := hc
    rw [List.append_nil] at hacc
    subst hacc
    obtain ⟨ι2, x3, sr3, r3⟩ := mk_done (sr1.nhid hD) hD x2 sr2 hD2 ra hf
    exact c _ _ _ (x1.trans x3) sr3 r3

section
variable {X : Cx} {G : Cn} {elt tg iter : Expr} {ifs : List Expr} {scope : Scope} {own : List (Str × Nat)} {pos spos py : Pos} {t : T} {fs : AF} {k : IK} {fc : CF} {fe : EF} {cell : Bool} {i : Nat} {y : Str}
theorem PE.some {t : Cn → TE} {P : Cn → Prop} {e : Expr} (h : ∀ G, P G → PE X e (t G)) {t' : TE} (w : ∀ σ H Q, t' σ H Q → ∃ G, P G ∧ t G σ H Q) : PE X e t' := PE.pick fun σ H Q q => let ⟨G, p, q⟩ := w σ H Q q; ⟨t G, h G p, q⟩
/-- what holds of a block, whatever is being made -/
abbrev Blk (X : Cx) (scope : Scope) (P : Cx → Prop) : Prop := ∀ (s : Shared) (H : Hp) (C : Addr) (cl : List (Str × Addr)) (fp : List Addr), P (X.blk s H scope (compEnvC scope cl C X.env) fp)
theorem sd_comp (hc : X.calm = true) (hN : X.N.Nodup) (hi : PI X tg iter (rdI G fs k)) (ok : BlkOk X.N X.env.scope scope own)
    (hg : Blk X scope fun Y => ∀ D, PG Y tg (rdG (G.hide D) t)) (ht : Blk X scope fun Y => ∀ D, PTs Y ifs (rdC (G.hide D) fc)) (he : Blk X scope fun Y => ∀ D, PE Y elt (rd (G.hide D) fe))
    (hs : ∀ x, foldedSetIterable iter X.env x = pure x) (hvs : ∀ i ∈ own.map (·.2), i ∈ t.slots) (hsv : ∀ i ∈ t.slots, i ∈ own.map (·.2)) :
    Sd G X (.ListComp elt [⟨tg, iter, ifs, 0⟩] scope pos) (compF t fs k fc fe cell) :=
  PE.mono (pe_lc (g := hG G t) (tt := hC G fc) (te := hE G fe) hc hN hi ok
    (fun s H C cl fp => ⟨fun pins s' σ H' v u Q I r ⟨D, q⟩ => (hg s H C cl fp D).run pins s' σ H' v u Q I r q⟩)
    (fun s H C cl fp => ⟨fun pins s' σ H' Q I ⟨D, q⟩ => (ht s H C cl fp D).run pins s' σ H' Q I q⟩)
    (fun s H C cl fp => ⟨fun pins s' σ H' Q I ⟨D, q⟩ => (he s H C cl fp D).run pins s' σ H' Q I q⟩) hs) fun σ H Q h => lc_wish hvs hsv h
/-- as a statement's value -/
abbrev rdS (G : Cn) (f : Ev → Store → Res) : TS := fun D σ H => ∃ ι e S r, EnvR G ι H e σ ∧ SR G ι S H ∧ f e S = some r ∧ ∀ σ' H' ι', Ext ι H ι' H' → SR G ι' r.2.2 H' → EnvR G ι' H' r.2.1 σ' →
  match r.1 with
  | .nx => D.nx σ' H'
  | .bk => D.bk σ' H'
  | .ct => D.ct σ' H'
  | .rt d => ∀ v, Rep G ι' H' d v → D.rt v H'
abbrev Ss (G : Cn) (X : Cx) (st : Stmt) (f : Ev → Store → Res) : Prop := PS X st (rdS G f)
theorem PS.mono {st : Stmt} {t t' : TS} (h : PS X st t) (w : ∀ D σ H, t' D σ H → t D σ H) : PS X st t' := ⟨fun pins s σ H D I q => h.run pins s σ H D I (w D σ H q)⟩
theorem asg_wish {f : EF} {D : Ends} {σ : L2.St} {H : Hp} (h : rdS G (fun σ S => (f σ S).bind fun r => (bindT (.name i) r.1 σ).bind fun σ' => some (.nx, σ', r.2)) D σ H) :
    rd G f σ H (fun x H1 => gName i x σ H1 D.nx) := by
  obtain ⟨ι, e, S, r, er, sr, hf, c⟩ := h
  obtain ⟨⟨d, S1⟩, h1, hf⟩ := bind_some hf
  simp only [bindT, Option.bind_some, Option.some.injEq] at hf
  subst hf
  exact ⟨ι, e, S, d, S1, er, sr, h1, fun v H1 ι1 x1 sr1 r1 => c _ _ _ x1 sr1 ((er.ext x1).set r1)⟩
theorem ss_setComp (hc : X.calm = true) (hN : X.N.Nodup) (hy : X.N[i]? = some y) (hyl : X.env.scope.names.lookup y = some .local)
    (hsw : swapsWith (.ListComp elt [⟨tg, iter, ifs, 0⟩] scope pos) (some (.Name y py)) spos.line X.env = pure true) (hi : PI X tg iter (rdI G fs k)) (ok : BlkOk X.N X.env.scope scope own)
    (hg : Blk X scope fun Y => ∀ D, PG Y tg (rdG (G.hide D) t)) (ht : Blk X scope fun Y => ∀ D, PTs Y ifs (rdC (G.hide D) fc)) (he : Blk X scope fun Y => ∀ D, PE Y elt (rd (G.hide D) fe))
    (hs : ∀ x, foldedSetIterable iter X.env x = pure x) (hvs : ∀ i ∈ own.map (·.2), i ∈ t.slots) (hsv : ∀ i ∈ t.slots, i ∈ own.map (·.2)) :
    Ss G X (.Assign [.Name y py] (.ListComp elt [⟨tg, iter, ifs, 0⟩] scope pos) spos) (fun σ S => (compF t fs k fc fe cell σ S).bind fun r => (bindT (.name i) r.1 σ).bind fun σ' => some (.nx, σ', r.2)) :=
  PS.mono (ps_setLc (g := hG G t) (tt := hC G fc) (te := hE G fe) hc hN hy hyl hsw hi ok
    (fun s H C cl fp => ⟨fun pins s' σ H' v u Q I r ⟨D, q⟩ => (hg s H C cl fp D).run pins s' σ H' v u Q I r q⟩)
    (fun s H C cl fp => ⟨fun pins s' σ H' Q I ⟨D, q⟩ => (ht s H C cl fp D).run pins s' σ H' Q I q⟩)
    (fun s H C cl fp => ⟨fun pins s' σ H' Q I ⟨D, q⟩ => (he s H C cl fp D).run pins s' σ H' Q I q⟩) hs) fun D σ H h => lc_wish hvs hsv (asg_wish h)
end
end Fw
end
section
set_option Elab.async false
set_option linter.all false
set_option autoImplicit false
set_option maxRecDepth 100000
set_option maxHeartbeats 4000000
/-! Fw10: dict comprehensions, comprehensions of two clauses. -/
namespace Fw
open PySem PySem.Spec PyProof.Rows L2
/-- a walk's turns, whatever a turn does -/
theorem turns {J : It} {n : Nat} {Gd : Hp → Prop} {Y : Nat → Hp → V → Hp → Prop} (w : Walk J n Gd Y) {B : (Hp → Prop) → V → Hp → Prop} {Done : Hp → Prop} {H0 : Hp} (Pv : Nat → Hp → Prop) (h0 : Pv 0 H0) (hG : ∀ i H, i ≤ n → Pv i H → Gd H)
    (hs : ∀ i x H H', i < n → Pv i H → Y i H x H' → B (Pv (i + 1)) x H') (hd : ∀ H, Pv n H → Done H) :
    ∃ W : Nat → Nat → Hp → Prop, (∃ m, W 0 m H0) ∧ ∀ i m H, W i m H → (J.stop i H ∧ Done H) ∨ (J.go i H ∧ ∃ Nx : Hp → Prop, (∀ H', Nx H' → ∃ m', m' < m ∧ W (i + 1) m' H') ∧ ∀ x H', J.yld i H x H' → B Nx x H') := by
  refine ⟨fun i m H => m = n - i ∧ i ≤ n ∧ Pv i H, ⟨n, by simp, Nat.zero_le _, h0⟩, ?_⟩
  rintro i m H ⟨rfl, hi, p⟩
  have q := hG i H hi p
  by_cases hlt : i < n
  · exact .inr ⟨w.goes i H hlt q, Pv (i + 1), fun H' p' => ⟨n - (i + 1), by omega, rfl, hlt, p'⟩, fun x H' y => hs i x H H' hlt p (w.yields i H x H' hlt q y)⟩
  · have e : i = n := by omega
    subst e
    exact .inl ⟨w.stops H q, hd H p⟩

/-! ### dicts -/
section
variable {G : Cn} {ι ι' ι1 : List Addr} {H H' H1 : Hp} {S S' S2 : Store} {D : Addr}
theorem Rep.key {k : Fw.D} {v : V} {q : Key} (r : Rep G ι H k v) (h : keyD k = some q) : v = kV q := by
  cases r <;> simp [keyD] at h <;> subst h <;> rfl
theorem RepK.any {ds : List (Fw.D × Fw.D)} {vs : List (Key × V)} (r : RepK G ι H ds vs) {k : Fw.D} {q : Key} (e : keyD k = some q) :
    (ds.any fun p => decide (keyD p.1 = keyD k)) = (vs.any fun p => decide (p.1 = q)) := by
  induction ds generalizing vs with
  | nil => cases r; rfl
  | cons d ds ih =>
    cases r with
    | @cons k' d' q' v ds vs e' hk h t =>
      rw [List.any_cons, List.any_cons, ih t]
      congr 1
      simp [e, e']
theorem RepK.mapPut {ds : List (Fw.D × Fw.D)} {vs : List (Key × V)} (r : RepK G ι H ds vs) {k d : Fw.D} {q : Key} {v : V} (e : keyD k = some q) (hv : Rep G ι H d v) :
    RepK G ι H (ds.map fun p => if keyD p.1 = keyD k then (p.1, d) else p) (vs.map fun kv => if kv.1 = q then (kv.1, v) else kv) := by
  induction ds generalizing vs with
  | nil => cases r; exact .nil
  | cons d' ds ih =>
    cases r with
    | @cons k' d'' q' v' ds vs e' hk h t =>
      rw [List.map_cons, List.map_cons]
      by_cases z : q' = q
      · rw [if_pos (show keyD k' = keyD k by rw [e', e, z]), if_pos z]
        exact .cons e' hk hv (ih t)
      · rw [if_neg (show ¬ keyD k' = keyD k by rw [e', e]; simpa using z), if_neg z]
        exact .cons e' hk h (ih t)
theorem RepK.snoc {ds : List (Fw.D × Fw.D)} {vs : List (Key × V)} (r : RepK G ι H ds vs) {k d : Fw.D} {q : Key} {v : V} (e : keyD k = some q) (hk : Rep G ι H k (kV q)) (hv : Rep G ι H d v) :
    RepK G ι H (ds ++ [(k, d)]) (vs ++ [(q, v)]) := by
  induction ds generalizing vs with
  | nil => cases r; exact .cons e hk hv .nil
  | cons d' ds ih => cases r with | cons e' hk' h t => exact .cons e' hk' h (ih t)
theorem RepK.put {ds : List (Fw.D × Fw.D)} {vs : List (Key × V)} (r : RepK G ι H ds vs) {k d : Fw.D} {q : Key} {v : V} (e : keyD k = some q) (hk : Rep G ι H k (kV q)) (hv : Rep G ι H d v) :
    RepK G ι H (putD k d ds) (putK vs q v) := by
  unfold putD putK
  rw [r.any e]
  split
  · exact r.mapPut e hv
  · exact r.snoc e hk hv
theorem putD_length (k d : Fw.D) (ds : List (Fw.D × Fw.D)) : ds.length ≤ (putD k d ds).length ∧ (putD k d ds).length ≤ ds.length + 1 := by
  unfold putD
  split <;> simp
theorem compD_length {g : Store → Bool} {f : Fw.D → Store → Option (Option (Fw.D × Fw.D) × Store)} : ∀ {xs : List Fw.D} {acc : List (Fw.D × Fw.D)} {S : Store} {r : List (Fw.D × Fw.D) × Store}, compD g f xs acc S = some r → acc.length ≤ r.1.length
  | [], acc, S, r, h => by simp only [compD, Option.some.injEq] at h; subst h; exact Nat.le_refl _
  | x :: xs, acc, S, r, h => by
    obtain ⟨⟨p, S1⟩, h1, h⟩ := bind_some h
    simp only at h
    split at h
    · have := compD_length h
      cases p with
      | none => exact this
      | some p => exact Nat.le_trans (putD_length p.1 p.2 acc).1 this
    · cases h
theorem compD_drop {g : Store → Bool} {f : Fw.D → Store → Option (Option (Fw.D × Fw.D) × Store)} {xs : List Fw.D} {i : Nat} {acc : List (Fw.D × Fw.D)} {S : Store} {r : List (Fw.D × Fw.D) × Store} {x : Fw.D} (hx : xs[i]? = some x) (h : compD g f (xs.drop i) acc S = some r) :
    ∃ y S1, f x S = some (y, S1) ∧ g S1 = true ∧ compD g f (xs.drop (i + 1)) (match y with | some p => putD p.1 p.2 acc | none => acc) S1 = some r := by
  have hd : xs.drop i = x :: xs.drop (i + 1) := by
    obtain ⟨hi, e⟩ := List.getElem?_eq_some_iff.mp hx
    rw [← e]
    exact List.drop_eq_getElem_cons hi
  rw [hd] at h
  obtain ⟨⟨y, S1⟩, h1, h⟩ := bind_some h
  simp only at h
  split at h
  · rename_i hg
    exact ⟨y, S1, h1, hg, h⟩
  · cases h
theorem mkD_done {cell : Bool} {ys : List (Fw.D × Fw.D)} {vs : List (Key × V)} {d : Fw.D} (hl : vs.length ≤ sizeLine) (hn : D ∉ G.hid) (hH : H1 D = none) (x : Ext ι1 H1 ι' H') (sr : SR (G.hide D) ι' S2 H') (hD : H' D = some (.dK vs)) (r : RepK (G.hide D) ι' H' ys vs) (e : mkD cell ys S2 = some (d, S')) :
    ∃ ι2, Ext ι1 H1 ι2 H' ∧ SR G ι2 S' H' ∧ Rep G ι2 H' d (.ref D) := by
  unfold mkD at e
  cases cell with
  | false =>
    simp only [Bool.false_eq_true, if_false, Option.some.injEq, Prod.mk.injEq] at e
    obtain ⟨rfl, rfl⟩ := e
    exact ⟨ι', x, show_sr sr, .dic hD ⟨(sr.hid D List.mem_cons_self).1, hn⟩ hl (r.tr show_tr)⟩
  | true =>
    simp only [if_true, Option.some.injEq, Prod.mk.injEq] at e
    obtain ⟨rfl, rfl⟩ := e
    refine ⟨ι' ++ [D], x.app hH, cellD_sr hn sr ⟨vs, hD, hl, r.tr cell_tr⟩, .ref ?_⟩
    rw [← sr.len, List.getElem?_append_right (Nat.le_refl _)]
    simp
end
def dcompF (t : T) (fs : AF) (k : IK) (fc : CF) (fk fv : EF) (cell : Bool) : EF := fun σ S => (fs σ S).bind fun r => (items k r.2 r.1).bind fun xs =>
      (compD (fun S' => guard r.2 S' r.1) (fun x S1 => (bindT t x σ).bind fun σ' => (fc σ' S1).bind fun b =>
        if b.1 then (fk σ' b.2).bind fun y => (fv σ' y.2).bind fun z => if (keyD y.1).isSome then some (some (y.1, z.1), z.2) else none else some (none, b.2)) xs [] r.2).bind fun q =>
          if q.1.length < LIM then mkD cell q.1 q.2 else none
theorem dc_wish {G : Cn} {t : T} {fs : AF} {k : IK} {fc : CF} {fk fv : EF} {cell : Bool} {vs : List Nat} {σ : L2.St} {H : Hp} {Q : VK} (hvs : ∀ i ∈ vs, i ∈ t.slots) (hsv : ∀ i ∈ t.slots, i ∈ vs)
    (h : rd G (dcompF t fs k fc fk fv cell) σ H Q) : tDc (rdI G fs k) (hG G t) (hC G fc) (hE G fk) (hE G fv) vs σ H Q := by
  obtain ⟨ι, e, S, d, S', er, sr, hf, c⟩ := h
  obtain ⟨⟨ds, S1⟩, h1, hf⟩ := bind_some hf
  obtain ⟨xs, h2, hf⟩ := bind_some hf
  obtain ⟨⟨ys, S2⟩, h3, hf⟩ := bind_some hf
  simp only at hf
  split at hf
  rotate_left
  · cases hf
  rename_i hlim
  refine ⟨ι, e, S, ds, S1, xs, er, sr, h1, h2, fun J H1 ι1 x1 sr1 wk D hD => ?_⟩
  have sr1' := hide_sr (.dK []) hD sr1
  obtain ⟨Gd, Y, w, hGd, hY⟩ := wk (G.hide D) ι1 (upd H1 D (.dK [])) rfl sr1' fun d v r => r.tr (hide_tr _ hD)
  have er1 : EnvR (G.hide D) ι1 (upd H1 D (.dK [])) (clr vs e) (L2.wipe σ vs) := ((er.ext x1).tr (hide_tr _ hD)).wipe vs
  refine turns w (fun i H' => ∃ ι' Si acc ws, Ext ι1 H1 ι' H' ∧ SR (G.hide D) ι' Si H' ∧ H' D = some (.dK ws) ∧ RepK (G.hide D) ι' H' acc ws ∧ Gds S1 Si ds ∧
    compD (fun S' => guard S1 S' ds) (fun x S1 => (bindT t x e).bind fun σ' => (fc σ' S1).bind fun b =>
        if b.1 then (fk σ' b.2).bind fun y => (fv σ' y.2).bind fun z => if (keyD y.1).isSome then some (some (y.1, z.1), z.2) else none else some (none, b.2)) (xs.drop i) acc Si = some (ys, S2))
    ⟨ι1, S1, [], [], Ext.refl.put hD _, sr1', upd_same, .nil, .inl rfl, by simpa using h3⟩ ?_ ?_ ?_
  · rintro i H' _ ⟨ι', Si, acc, ws, x2, sr2, _, _, g, _⟩
    exact hGd ι' Si H' (x2.hid _ hD) sr2 g
  · rintro i x H' H'' hi ⟨ι', Si, acc, ws, x2, sr2, hD2, ra, g, hc⟩ hy
    have hx : xs[i]? = some xs[i] := List.getElem?_eq_getElem hi
    obtain ⟨x3, sr3, r3⟩ := hY i H' x H'' ι' Si xs[i] hx (x2.hid _ hD) sr2 g hy
    obtain ⟨y, Sy, h4, hg', h5⟩ := compD_drop hx hc
    obtain ⟨e', h7, h4⟩ := bind_some h4
    obtain ⟨⟨b, Sb⟩, h8, h4⟩ := bind_some h4
    have hDi : D ∉ ι' := (sr2.hid D List.mem_cons_self).1
    refine ⟨D, ι', clr vs e, xs[i], e', ((er1.tr (x2.hid _ hD)).ext x3), r3, by rw [bindT_clr hvs]; exact h7, fun σ2 er2 hw => ⟨by rw [hw vs hsv, wipe_wipe], D, ι', e', Si, b, Sb, er2, sr3, h8, fun H3 ι3 x4 sr4 => ?_⟩⟩
    have hD3 : H3 D = some (.dK ws) := x4.keep D _ hDi (x3.keep D _ hDi hD2)
    have x5 : Ext ι1 H1 ι3 H3 := x2.trans (x3.trans x4)
    have ra' := (ra.ext x3).ext x4
    cases b with
    | false =>
      simp only [Bool.false_eq_true, if_false, Option.some.injEq, Prod.mk.injEq] at h4 ⊢
      obtain ⟨rfl, rfl⟩ := h4
      exact ⟨ι3, Sb, acc, ws, x5, sr4, hD3, ra', .inr hg', h5⟩
    | true =>
      simp only [if_true] at h4 ⊢
      obtain ⟨⟨y1, Sy1⟩, h9, h4⟩ := bind_some h4
      obtain ⟨⟨z1, Sz1⟩, h10, h4⟩ := bind_some h4
      simp only at h4
      split at h4
      rotate_left
      · cases h4
      rename_i hk
      simp only [Option.some.injEq, Prod.mk.injEq] at h4
      obtain ⟨rfl, rfl⟩ := h4
      obtain ⟨q, hq⟩ := Option.isSome_iff_exists.mp hk
      refine ⟨D, ι3, e', Sb, y1, Sy1, er2.ext x4, sr4, h9, fun v H4 ι4 x6 sr5 r5 => ?_⟩
      refine ⟨D, ι4, e', Sy1, z1, Sz1, (er2.ext x4).ext x6, sr5, h10, fun u H5 ι5 x7 sr6 r6 => ?_⟩
      have hD4 : H4 D = some (.dK ws) := x6.keep D _ (sr4.hid D List.mem_cons_self).1 hD3
      have hD5 : H5 D = some (.dK ws) := x7.keep D _ (sr5.hid D List.mem_cons_self).1 hD4
      have ev := r5.key hq
      subst ev
      have hlen : acc.length < LIM := Nat.lt_of_le_of_lt (Nat.le_trans (putD_length y1 z1 acc).1 (compD_length h5)) hlim
      rw [LIM_eq] at hlen
      exact ⟨ws, q, rfl, hD5, by rw [← ra.length]; exact hlen, ι5, Sz1, putD y1 z1 acc, putK ws q u, ((x5.trans x6).trans x7).put hD _, put_sr _ sr6, upd_same,
        (((ra'.ext x6).ext x7).put hq (r5.ext x7) r6).tr (put_tr _), .inr hg', h5⟩
  · rintro H' ⟨ι', Si, acc, ws, x2, sr2, hD2, ra, g, hc⟩
    rw [List.drop_length] at hc
    simp only [compD, Option.some.injEq, Prod.mk.injEq] at hc
    obtain ⟨rfl, rfl⟩ := hc
    obtain ⟨ι2, x3, sr3, r3⟩ := mkD_done (by rw [← ra.length]; rw [LIM_eq] at hlim; exact Nat.le_of_lt hlim) (sr1.nhid hD) hD x2 sr2 hD2 ra hf
    exact c _ _ _ (x1.trans x3) sr3 r3
section
variable {X : Cx} {G : Cn} {kx vx elt tg iter tg1 iter1 : Expr} {ifs : List Expr} {scope : Scope} {own : List (Str × Nat)} {pos spos py : Pos} {t t1 : T} {fs fs1 : AF} {k k1 : IK} {fc : CF} {fe fk fv : EF} {cell : Bool} {i : Nat} {y : Str}
theorem sd_dcomp (hc : X.calm = true) (hN : X.N.Nodup) (hi : PI X tg iter (rdI G fs k)) (ok : BlkOk X.N X.env.scope scope own)
    (hg : Blk X scope fun Y => ∀ D, PG Y tg (rdG (G.hide D) t)) (ht : Blk X scope fun Y => ∀ D, PTs Y ifs (rdC (G.hide D) fc)) (hk : Blk X scope fun Y => ∀ D, PE Y kx (rd (G.hide D) fk)) (he : Blk X scope fun Y => ∀ D, PE Y vx (rd (G.hide D) fv))
    (hs : ∀ x, foldedSetIterable iter X.env x = pure x) (hvs : ∀ i ∈ own.map (·.2), i ∈ t.slots) (hsv : ∀ i ∈ t.slots, i ∈ own.map (·.2)) :
    Sd G X (.DictComp kx vx [⟨tg, iter, ifs, 0⟩] scope pos) (dcompF t fs k fc fk fv cell) :=
  PE.mono (pe_dc (g := hG G t) (tt := hC G fc) (tk := hE G fk) (tv := hE G fv) hc hN hi ok
    (fun s H C cl fp => ⟨fun pins s' σ H' v u Q I r ⟨D, q⟩ => (hg s H C cl fp D).run pins s' σ H' v u Q I r q⟩)
    (fun s H C cl fp => ⟨fun pins s' σ H' Q I ⟨D, q⟩ => (ht s H C cl fp D).run pins s' σ H' Q I q⟩)
    (fun s H C cl fp => ⟨fun pins s' σ H' Q I ⟨D, q⟩ => (hk s H C cl fp D).run pins s' σ H' Q I q⟩)
    (fun s H C cl fp => ⟨fun pins s' σ H' Q I ⟨D, q⟩ => (he s H C cl fp D).run pins s' σ H' Q I q⟩) hs) fun σ H Q h => dc_wish hvs hsv h

/-! ### two clauses -/
def comp2F (t : T) (fs : AF) (k : IK) (t2 : T) (fs2 : AF) (k2 : IK) (fe : EF) (cell : Bool) : EF := fun σ S => (fs σ S).bind fun r => (items k r.2 r.1).bind fun xs =>
      (compL (fun S' => guard r.2 S' r.1) (fun x S1 => (bindT t x (clr t2.slots σ)).bind fun σ' => (fs2 σ' S1).bind fun r2 => (items k2 r2.2 r2.1).bind fun xs2 =>
        compL (fun S' => guard r2.2 S' r2.1) (fun x2 S2 => (bindT t2 x2 σ').bind fun σ2 => (fe σ2 S2).bind fun y => some ([y.1], y.2)) xs2 r2.2) xs r.2).bind fun q => mk cell q.1 q.2
def hI (G : Cn) (f : AF) (k : IK) : TI := fun σ H R => ∃ D, rdI (G.hide D) f k σ H R
end
theorem clr_clr {e : Ev} {t t1 : T} {d : D} {vs : List Nat} (hvs : ∀ i ∈ vs, i ∈ t.slots ∨ i ∈ t1.slots) (hw : ∀ i ∈ t1.slots, i ∈ vs) : bindT t d (clr vs e) = bindT t d (clr t1.slots e) := by
  refine bindT_eq (by rw [clr_length, clr_length]) fun j hj => ?_
  have get : ∀ ws : List Nat, (clr ws e)[j]? = if j ∈ ws then (if j < e.length then some none else none) else e[j]? := by
    intro ws
    induction ws with
    | nil => simp [clr]
    | cons v ws ih =>
      show ((clr ws e).set v none)[j]? = _
      rw [List.getElem?_set]
      by_cases z : v = j
      · subst z; simp [clr_length]
      · rw [if_neg z, ih]
        have z' : ¬ j = v := fun w => z w.symm
        simp [z']
  rw [get, get]
  by_cases z : j ∈ vs
  · have : j ∈ t1.slots := (hvs j z).resolve_left hj
    simp [z, this]
  · have : j ∉ t1.slots := fun m => z (hw j m)
    simp [z, this]
theorem lc2_wish {G : Cn} {t t1 : T} {fs fs1 : AF} {k k1 : IK} {fe : EF} {cell : Bool} {vs vs1 : List Nat} {σ : L2.St} {H : Hp} {Q : VK} (hvs : ∀ i ∈ vs, i ∈ t.slots ∨ i ∈ t1.slots) (hsv : ∀ i ∈ t.slots, i ∈ vs) (h1s : ∀ i ∈ t1.slots, i ∈ vs)
    (hv1 : ∀ i ∈ vs1, i ∈ t1.slots) (h1v : ∀ i ∈ t1.slots, i ∈ vs1)
    (h : rd G (comp2F t fs k t1 fs1 k1 fe cell) σ H Q) : tLc2 (rdI G fs k) (hG G t) tYes (hI G fs1 k1) (hG G t1) tYes (hE G fe) vs vs1 σ H Q := by
  obtain ⟨ι, e, S, d, S', er, sr, hf, c⟩ := h
  obtain ⟨⟨ds, S1⟩, h1, hf⟩ := bind_some hf
  obtain ⟨xs, h2, hf⟩ := bind_some hf
  obtain ⟨⟨ys, S2⟩, h3, hf⟩ := bind_some hf
  have hlim : ys.length ≤ LIM := by
    unfold mk at hf
    split at hf
    · assumption
    · cases hf
  refine ⟨ι, e, S, ds, S1, xs, er, sr, h1, h2, fun J H1 ι1 x1 sr1 wk D hD => ?_⟩
  have sr1' := hide_sr (.lst []) hD sr1
  obtain ⟨Gd, Y, w, hGd, hY⟩ := wk (G.hide D) ι1 (upd H1 D (.lst [])) rfl sr1' fun d v r => r.tr (hide_tr _ hD)
  have er1 : EnvR (G.hide D) ι1 (upd H1 D (.lst [])) (clr vs e) (L2.wipe σ vs) := ((er.ext x1).tr (hide_tr _ hD)).wipe vs
  let P : Nat → Hp → Prop := fun i H' => ∃ ι' Si acc ws rest, Ext ι1 H1 ι' H' ∧ SR (G.hide D) ι' Si H' ∧ H' D = some (.lst ws) ∧ Reps (G.hide D) ι' H' acc ws ∧ Gds S1 Si ds ∧
    compL (fun S' => guard S1 S' ds) (fun x S1 => (bindT t x (clr t1.slots e)).bind fun σ' => (fs1 σ' S1).bind fun r2 => (items k1 r2.2 r2.1).bind fun xs2 =>
        compL (fun S' => guard r2.2 S' r2.1) (fun x2 S2 => (bindT t1 x2 σ').bind fun σ2 => (fe σ2 S2).bind fun y => some ([y.1], y.2)) xs2 r2.2) (xs.drop i) Si = some (rest, S2) ∧ acc ++ rest = ys
  refine turns w P ⟨ι1, S1, [], [], ys, Ext.refl.put hD _, sr1', upd_same, .nil, .inl rfl, by simpa using h3, rfl⟩ ?_ ?_ ?_
  · rintro i H' _ ⟨ι', Si, acc, ws, rest, x2, sr2, _, _, g, _⟩
    exact hGd ι' Si H' (x2.hid _ hD) sr2 g
  · rintro i x H' H'' hi ⟨ι', Si, acc, ws, rest, x2, sr2, hD2, ra, g, hc, hacc⟩ hy
    have hx : xs[i]? = some xs[i] := List.getElem?_eq_getElem hi
    obtain ⟨x3, sr3, r3⟩ := hY i H' x H'' ι' Si xs[i] hx (x2.hid _ hD) sr2 g hy
    obtain ⟨y, Sy, rest', h4, hg', h5, h6⟩ := compL_drop hx hc
    obtain ⟨e', h7, h4⟩ := bind_some h4
    obtain ⟨⟨ds2, Sb⟩, h8, h4⟩ := bind_some h4
    obtain ⟨xs2, h9, h4⟩ := bind_some h4
    have hDi : D ∉ ι' := (sr2.hid D List.mem_cons_self).1
    refine ⟨D, ι', clr vs e, xs[i], e', ((er1.tr (x2.hid _ hD)).ext x3), r3, by rw [clr_clr hvs h1s]; exact h7, fun σ2 er2 hw => ⟨by rw [hw vs hsv, wipe_wipe], ?_⟩⟩
    unfold tYes
    refine iteT ?_
    refine ⟨D, ι', e', Si, ds2, Sb, xs2, er2, sr3, h8, h9, fun J1 H3 ι3 x4 sr4 wk1 => ?_⟩
    have hD3 : H3 D = some (.lst ws) := x4.keep D _ hDi (x3.keep D _ hDi hD2)
    have x5 : Ext ι1 H1 ι3 H3 := x2.trans (x3.trans x4)
    have ra3 := (ra.ext x3).ext x4
    have er3 : EnvR (G.hide D) ι3 H3 (clr vs1 e') (L2.wipe σ2 vs1) := (er2.ext x4).wipe vs1
    obtain ⟨Gd1, Y1, w1, hGd1, hY1⟩ := wk1 (G.hide D) ι3 H3 rfl sr4 fun d v r => r
    have t3 : ∀ {ι5 : List Addr} {H5 : Hp}, Ext ι3 H3 ι5 H5 → Tr (G.hide D) ι3 H3 (G.hide D) ι5 H5 := fun z => ⟨rfl, fun _ _ q => z.get q, fun a u f ee => ⟨⟨z.out f.1 ee, f.2⟩, z.keep a u f.1 ee⟩⟩
    have t3p : ∀ {ι5 : List Addr} {H5 : Hp} (o : HO), Tr (G.hide D) ι3 H3 (G.hide D) ι5 H5 → Tr (G.hide D) ι3 H3 (G.hide D) ι5 (upd H5 D o) := fun o z => ⟨rfl, z.at_, fun a u f ee => by
      have ne : a ≠ D := fun w => f.2 (by rw [w]; exact List.mem_cons_self)
      exact ⟨(z.fr a u f ee).1, by rw [upd_ne ne]; exact (z.fr a u f ee).2⟩⟩
    refine turns w1 (fun j H5 => ∃ ι5 Sj acc5 ws5 rest5, Ext ι1 H1 ι5 H5 ∧ Tr (G.hide D) ι3 H3 (G.hide D) ι5 H5 ∧ SR (G.hide D) ι5 Sj H5 ∧ H5 D = some (.lst ws5) ∧ Reps (G.hide D) ι5 H5 acc5 ws5 ∧ Gds Sb Sj ds2 ∧
      compL (fun S' => guard Sb S' ds2) (fun x2 S2 => (bindT t1 x2 e').bind fun σ2 => (fe σ2 S2).bind fun y => some ([y.1], y.2)) (xs2.drop j) Sj = some (rest5, Sy) ∧ acc5 ++ (rest5 ++ rest') = ys)
      ⟨ι3, Sb, acc, ws, y, x5, t3 Ext.refl, sr4, hD3, ra3, .inl rfl, by simpa using h4, by rw [← hacc]; exact congrArg (acc ++ ·) h6.symm⟩ ?_ ?_ ?_
    · rintro j H5 _ ⟨ι5, Sj, acc5, ws5, rest5, x6, tr6, sr6, _, _, g6, _⟩
      exact hGd1 ι5 Sj H5 tr6 sr6 g6
    · rintro j x' H5 H6 hj ⟨ι5, Sj, acc5, ws5, rest5, x6, tr6, sr6, hD5, ra5, g6, hc5, hacc5⟩ hy1
      have hx' : xs2[j]? = some xs2[j] := List.getElem?_eq_getElem hj
      obtain ⟨x7, sr7, r7⟩ := hY1 j H5 x' H6 ι5 Sj xs2[j] hx' tr6 sr6 g6 hy1
      obtain ⟨y', Sy', rest6, h10, hg6, h11, h12⟩ := compL_drop hx' hc5
      obtain ⟨e2, h13, h10⟩ := bind_some h10
      obtain ⟨⟨y1, Sy1⟩, h14, h10⟩ := bind_some h10
      simp only [Option.some.injEq, Prod.mk.injEq] at h10
      obtain ⟨rfl, rfl⟩ := h10
      refine ⟨D, ι5, clr vs1 e', xs2[j], e2, ((er3.tr tr6).ext x7), r7, by rw [bindT_clr hv1]; exact h13, fun σ3 er4 hw1 => ⟨by rw [hw1 vs1 h1v, wipe_wipe], ?_⟩⟩
      refine iteT ?_
      refine ⟨D, ι5, e2, Sj, y1, Sy1, er4, sr7, h14, fun v H7 ι7 x8 sr8 r8 => ?_⟩
      have hD6 : H6 D = some (.lst ws5) := x7.keep D _ (sr6.hid D List.mem_cons_self).1 hD5
      have hD7 : H7 D = some (.lst ws5) := x8.keep D _ (sr7.hid D List.mem_cons_self).1 hD6
      have hlen : acc5.length + 1 ≤ LIM := by
        have := hlim
        simp only at h12
        rw [← hacc5, h12] at this
        simp only [List.length_append, List.length_cons, List.length_nil] at this
        omega
      rw [LIM_eq] at hlen
      have tr8 : Tr (G.hide D) ι3 H3 (G.hide D) ι7 H7 := ⟨rfl, fun n a q => (x7.trans x8).get (tr6.at_ n a q), fun a u f ee => by
        obtain ⟨f', e'⟩ := tr6.fr a u f ee
        exact ⟨⟨(x7.trans x8).out f'.1 e', f'.2⟩, (x7.trans x8).keep a u f'.1 e'⟩⟩
      simp only at h12
      refine ⟨ws5, hD7, by rw [← ra5.length]; omega, ι7, Sy1, acc5 ++ [y1], ws5 ++ [v], rest6, ((x6.trans x7).trans x8).put hD _, t3p _ tr8, put_sr _ sr8, upd_same, ((((ra5.ext x7).ext x8)).append (.cons r8 .nil)).tr (put_tr _), .inr hg6, h11, by rw [← hacc5, h12]; simp⟩
    · rintro H5 ⟨ι5, Sj, acc5, ws5, rest5, x6, tr6, sr6, hD5, ra5, g6, hc5, hacc5⟩
      rw [List.drop_length] at hc5
      simp only [compL, Option.some.injEq, Prod.mk.injEq] at hc5
      obtain ⟨rfl, rfl⟩ := hc5
      exact ⟨ι5, Sj, acc5, ws5, rest', x6, sr6, hD5, ra5, .inr hg', h5, by simpa using hacc5⟩
  · rintro H' ⟨ι', Si, acc, ws, rest, x2, sr2, hD2, ra, g, hc, hacc⟩
    rw [List.drop_length] at hc
    simp only [compL, Option.some.injEq, Prod.mk.injEq] at hc
    obtain ⟨rfl, rfl⟩ := hc
    rw [List.append_nil] at hacc
    subst hacc
    obtain ⟨ι2, x3, sr3, r3⟩ := mk_done (sr1.nhid hD) hD x2 sr2 hD2 ra hf
    exact c _ _ _ (x1.trans x3) sr3 r3
section
variable {X : Cx} {G : Cn} {elt tg iter tg1 iter1 : Expr} {scope : Scope} {own : List (Str × Nat)} {pos spos py : Pos} {t t1 : T} {fs fs1 : AF} {k k1 : IK} {fe : EF} {cell : Bool} {i : Nat} {y : Str}
theorem sd_comp2 (hc : X.calm = true) (hN : X.N.Nodup) (hi : PI X tg iter (rdI G fs k)) (ok : BlkOk X.N X.env.scope scope own)
    (hg : Blk X scope fun Y => ∀ D, PG Y tg (rdG (G.hide D) t)) (hi1 : Blk X scope fun Y => ∀ D, PI Y tg1 iter1 (rdI (G.hide D) fs1 k1)) (hg1 : Blk X scope fun Y => ∀ D, PG Y tg1 (rdG (G.hide D) t1)) (he : Blk X scope fun Y => ∀ D, PE Y elt (rd (G.hide D) fe))
    (hs : ∀ x, foldedSetIterable iter X.env x = pure x) (hs1 : ∀ env x, foldedSetIterable iter1 env x = pure x)
    (hvs : ∀ i ∈ own.map (·.2), i ∈ t.slots ∨ i ∈ t1.slots) (hsv : ∀ i ∈ t.slots, i ∈ own.map (·.2)) (h1s : ∀ i ∈ t1.slots, i ∈ own.map (·.2)) :
    Sd G X (.ListComp elt [⟨tg, iter, [], 0⟩, ⟨tg1, iter1, [], 0⟩] scope pos) (comp2F t fs k t1 fs1 k1 fe cell) :=
  PE.mono (pe_lc2 (g := hG G t) (tt := tYes) (wi1 := hI G fs1 k1) (g1 := hG G t1) (tt1 := tYes) (te := hE G fe) (vs1 := t1.slots) hc hN hi ok h1s
    (fun s H C cl fp => ⟨fun pins s' σ H' v u Q I r ⟨D, q⟩ => (hg s H C cl fp D).run pins s' σ H' v u Q I r q⟩)
    (fun s H C cl fp => pts_nil)
    (fun s H C cl fp => ⟨fun pins s' σ H' R I ⟨D, q⟩ => (hi1 s H C cl fp D).run pins s' σ H' R I q⟩)
    (fun s H C cl fp => ⟨fun pins s' σ H' v u Q I r ⟨D, q⟩ => (hg1 s H C cl fp D).run pins s' σ H' v u Q I r q⟩)
    (fun s H C cl fp => pts_nil)
    (fun s H C cl fp => ⟨fun pins s' σ H' Q I ⟨D, q⟩ => (he s H C cl fp D).run pins s' σ H' Q I q⟩) hs hs1) fun σ H Q h => lc2_wish hvs hsv h1s (fun _ m => m) (fun _ m => m) h
theorem ss_setComp2 (hc : X.calm = true) (hN : X.N.Nodup) (hy : X.N[i]? = some y) (hyl : X.env.scope.names.lookup y = some .local)
    (hsw : swapsWith (.ListComp elt [⟨tg, iter, [], 0⟩, ⟨tg1, iter1, [], 0⟩] scope pos) (some (.Name y py)) spos.line X.env = pure true) (hi : PI X tg iter (rdI G fs k)) (ok : BlkOk X.N X.env.scope scope own)
    (hg : Blk X scope fun Y => ∀ D, PG Y tg (rdG (G.hide D) t)) (hi1 : Blk X scope fun Y => ∀ D, PI Y tg1 iter1 (rdI (G.hide D) fs1 k1)) (hg1 : Blk X scope fun Y => ∀ D, PG Y tg1 (rdG (G.hide D) t1)) (he : Blk X scope fun Y => ∀ D, PE Y elt (rd (G.hide D) fe))
    (hs : ∀ x, foldedSetIterable iter X.env x = pure x) (hs1 : ∀ env x, foldedSetIterable iter1 env x = pure x)
    (hvs : ∀ i ∈ own.map (·.2), i ∈ t.slots ∨ i ∈ t1.slots) (hsv : ∀ i ∈ t.slots, i ∈ own.map (·.2)) (h1s : ∀ i ∈ t1.slots, i ∈ own.map (·.2)) :
    Ss G X (.Assign [.Name y py] (.ListComp elt [⟨tg, iter, [], 0⟩, ⟨tg1, iter1, [], 0⟩] scope pos) spos) (fun σ S => (comp2F t fs k t1 fs1 k1 fe cell σ S).bind fun r => (bindT (.name i) r.1 σ).bind fun σ' => some (.nx, σ', r.2)) :=
  PS.mono (ps_setLc2 (g := hG G t) (tt := tYes) (wi1 := hI G fs1 k1) (g1 := hG G t1) (tt1 := tYes) (te := hE G fe) (vs1 := t1.slots) hc hN hy hyl hsw hi ok h1s
    (fun s H C cl fp => ⟨fun pins s' σ H' v u Q I r ⟨D, q⟩ => (hg s H C cl fp D).run pins s' σ H' v u Q I r q⟩)
    (fun s H C cl fp => pts_nil)
    (fun s H C cl fp => ⟨fun pins s' σ H' R I ⟨D, q⟩ => (hi1 s H C cl fp D).run pins s' σ H' R I q⟩)
    (fun s H C cl fp => ⟨fun pins s' σ H' v u Q I r ⟨D, q⟩ => (hg1 s H C cl fp D).run pins s' σ H' v u Q I r q⟩)
    (fun s H C cl fp => pts_nil)
    (fun s H C cl fp => ⟨fun pins s' σ H' Q I ⟨D, q⟩ => (he s H C cl fp D).run pins s' σ H' Q I q⟩) hs hs1) fun D σ H h => lc2_wish hvs hsv h1s (fun _ m => m) (fun _ m => m) (asg_wish h)
end
end Fw
end
section
set_option Elab.async false
set_option linter.all false
set_option autoImplicit false
set_option maxRecDepth 100000
set_option maxHeartbeats 4000000
/-! Fw11: methods of lists and dicts, calls. -/
namespace Fw
open PySem PySem.Spec PyProof.Rows L2

/-! ### methods of lists -/
def pmF (p : PM) (fo : EF) (fs : AF) : EF := fun σ S => (fo σ S).bind fun r => if pmOk p (deref r.2 r.1) then (fs σ r.2).bind fun q => pmV p q.2 r.1 q.1 else none
/-- what is seen of a call of a method with arguments -/
structure MSee (X : Cx) (o : Expr) (m : Str) (apos : Pos) (e : Expr) (es : List Expr) (cpos : Pos) : Prop where
  base : attributeBase o m X.env (eval o X.env) = eval o X.env
  few : ((backTo cpos (starEach (e :: es) X.env)).all (fun x => !x.1) && (backToKw cpos (keywordEach [] X.env)).all (fun x => x.1.isSome)
    && decide ((e :: es).length + ([] : List Keyword).length + (if ([] : List Keyword).isEmpty then 0 else 1) < 30)) = true
  line : (apos.endLine == cpos.line) = true
  hs : starEach (e :: es) X.env = (false, eval e X.env) :: starEach es X.env
  plain : (backTo cpos (starEach es X.env)).any (·.1) = false
section
variable {X : Cx} {G : Cn} {o e a b : Expr} {es : List Expr} {fo fa fb : EF} {fs : AF} {apos cpos pos p p2 : Pos} {m : Str} {id : String} {r : V → List V → Hp → VK → Prop} {pm : PM}
theorem pm_wish (hK : X.K = G.K) (hp : ∀ x, pmOk pm x = true → ∃ xs, x = .lst xs)
    (key : ∀ (ι : List Addr) (S S' : Store) (H : Hp) (d d' : D) (v : V) (ds : List D) (vs : List V) (Q : VK), SR G ι S H → Rep G ι H d v → Reps G ι H ds vs → pmV pm S d ds = some (d', S') → Cont G ι H S' d' Q → r v vs H Q)
    {σ : L2.St} {H : Hp} {Q : VK} (h : rd G (pmF pm fo fs) σ H Q) : tBM X.K "list" r (rd G fo) (rdA G fs) σ H Q := by
  obtain ⟨ι, en, S, d, S', er, sr, hf, c⟩ := h
  obtain ⟨⟨x, S1⟩, h1, hf⟩ := bind_some hf
  simp only at hf
  split at hf
  · rename_i hok
    obtain ⟨⟨ds, S2⟩, h2, hf⟩ := bind_some hf
    refine ⟨ι, en, S, x, S1, er, sr, h1, fun v H1 ι1 x1 sr1 r1 => ?_⟩
    obtain ⟨xs, hxs⟩ := hp _ hok
    obtain ⟨ad, ws, rfl, t, _, _⟩ := view_lst sr1 r1 hxs
    refine ⟨.inl ⟨rfl, ws, hK ▸ .inl t⟩, ι1, en, S1, ds, S2, er.ext x1, sr1, h2, fun vs H2 ι2 x2 sr2 r2 => ?_⟩
    exact key ι2 S2 S' H2 x d _ ds vs Q sr2 (r1.ext x2) r2 hf fun w H3 ι3 x3 sr3 r3 => c w H3 ι3 ((x1.trans x2).trans x3) sr3 r3
  · cases hf
theorem Reps.one {ι : List Addr} {H : Hp} {d : D} {vs : List V} (h : Reps G ι H [d] vs) : ∃ v, vs = [v] ∧ Rep G ι H d v := by
  cases h with
  | cons h t => cases t; exact ⟨_, rfl, h⟩
theorem sd_append (hK : X.K = G.K) (ho : Sd G X o fo) (ha : Sda G X (e :: es) fs) (m : MSee X o "append" apos e es cpos) : Sd G X (.Call (.Attribute o "append" apos) (e :: es) [] cpos) (pmF .append fo fs) :=
  PE.mono (pe_bm PySem.F.plainAttrs_list PySem.F.slot_list_append PySem.F.type_list_append mt_append ho ha m.base m.few m.line m.hs m.plain) fun σ H Q h =>
    pm_wish hK (fun x hx => by cases x <;> simp [pmOk] at hx; exact ⟨_, rfl⟩) (fun ι S S' H d d' v ds vs Q sr r rs hf c => by
      match d, r, ds, hf, rs with
      | .ref n, .ref hn, [x], hf, rs =>
        obtain ⟨u, rfl, ru⟩ := rs.one
        simp only [pmV] at hf
        split at hf
        · rename_i xs hc
          split at hf
          · rename_i hl
            simp only [Option.some.injEq, Prod.mk.injEq] at hf
            obtain ⟨rfl, rfl⟩ := hf
            obtain ⟨ad, ea, ws, hw, z, q⟩ := sr.cell n _ hc
            rw [hn] at ea
            cases ea
            rw [LIM_eq] at hl
            have x' := set_ext sr hn (.lst (ws ++ [u]))
            refine ⟨_, ws, u, rfl, rfl, hw, by rw [← q.length]; exact hl, c _ _ ι x' (set_sr sr hn ⟨_, upd_same, ?_, (q.append (.cons ru .nil)).ext x'⟩) .non⟩
            rw [List.length_append, ← q.length]
            exact hl
          · cases hf
        · cases hf) h
theorem sd_extend (hK : X.K = G.K) (ho : Sd G X o fo) (ha : Sda G X (e :: es) fs) (m : MSee X o "extend" apos e es cpos) : Sd G X (.Call (.Attribute o "extend" apos) (e :: es) [] cpos) (pmF .extend fo fs) :=
  PE.mono (pe_bm PySem.F.plainAttrs_list PySem.F.slot_list_extend PySem.F.type_list_extend mt_extend ho ha m.base m.few m.line m.hs m.plain) fun σ H Q h =>
    pm_wish hK (fun x hx => by cases x <;> simp [pmOk] at hx; exact ⟨_, rfl⟩) (fun ι S S' H d d' v ds vs Q sr r rs hf c => by
      match d, r, ds, hf, rs with
      | .ref n, .ref hn, [x], hf, rs =>
        obtain ⟨u, rfl, ru⟩ := rs.one
        simp only [pmV] at hf
        split at hf
        · rename_i xs ys hc hd
          split at hf
          · rename_i hl
            rw [Bool.and_eq_true, decide_eq_true_eq] at hl
            obtain ⟨hno, hl⟩ := hl
            obtain ⟨b, ys', rfl, hb, z2, q2⟩ := view_lstM sr ru hd hno
            obtain ⟨ad, ea, ws, hw, z, q⟩ := sr.cell n _ hc
            rw [hn] at ea
            cases ea
            rw [LIM_eq] at hl
            have x' := set_ext sr hn (.lst (ws ++ ys'))
            simp only [Option.some.injEq, Prod.mk.injEq] at hf
            obtain ⟨rfl, rfl⟩ := hf
            refine ⟨_, b, ws, ys', rfl, rfl, hw, hb, by rw [← q.length, ← q2.length]; exact hl, c _ _ ι x' (set_sr sr hn ⟨_, upd_same, ?_, (q.append q2).ext x'⟩) .non⟩
            rw [List.length_append, ← q.length, ← q2.length]
            exact hl
          · cases hf
        · cases hf) h
theorem sd_pop1 (hK : X.K = G.K) (ho : Sd G X o fo) (ha : Sda G X (e :: es) fs) (m : MSee X o "pop" apos e es cpos) : Sd G X (.Call (.Attribute o "pop" apos) (e :: es) [] cpos) (pmF .pop1 fo fs) :=
  PE.mono (pe_bm PySem.F.plainAttrs_list PySem.F.slot_list_pop PySem.F.type_list_pop mt_popAt ho ha m.base m.few m.line m.hs m.plain) fun σ H Q h =>
    pm_wish hK (fun x hx => by cases x <;> simp [pmOk] at hx; exact ⟨_, rfl⟩) (fun ι S S' H d d' v ds vs Q sr r rs hf c => by
      match d, r, ds, hf, rs with
      | .ref n, .ref hn, [.int i], hf, rs =>
        obtain ⟨u, rfl, ru⟩ := rs.one
        cases ru
        simp only [pmV] at hf
        split at hf
        · rename_i xs hc
          split at hf
          · rename_i hl
            obtain ⟨z, hz, hf⟩ := map_some' hf
            simp only [Prod.mk.injEq] at hf
            obtain ⟨rfl, rfl⟩ := hf
            obtain ⟨ad, ea, ws, hw, z, q⟩ := sr.cell n _ hc
            rw [hn] at ea
            cases ea
            obtain ⟨y, hy, ry⟩ := q.get hz
            have x' := set_ext sr hn (.lst (ws.eraseIdx i.toNat))
            have hlt : i.toNat < ws.length := (List.getElem?_eq_some_iff.mp hy).1
            refine ⟨_, ws, i, i.toNat, y, rfl, rfl, hw, by omega, hl.2, ?_, hy, c _ _ ι x' (set_sr sr hn ⟨_, upd_same, ?_, (q.eraseIdx _).ext x'⟩) (ry.ext x')⟩
            · unfold seqIndex?
              have h1 : ¬ i < 0 := by omega
              simp only [h1, if_false]
              rw [if_pos (by simp; omega)]
            · exact Nat.le_trans (len_erase ws i.toNat) z
          · cases hf
        · cases hf) h
theorem sd_index (hK : X.K = G.K) (hu : X.A.units + 65 < cLine) (ho : Sd G X o fo) (ha : Sda G X (e :: es) fs) (m : MSee X o "index" apos e es cpos) : Sd G X (.Call (.Attribute o "index" apos) (e :: es) [] cpos) (pmF .index fo fs) :=
  PE.mono (pe_bm PySem.F.plainAttrs_list PySem.F.slot_list_index PySem.F.type_list_index (mt_indexD hu) ho ha m.base m.few m.line m.hs m.plain) fun σ H Q h =>
    pm_wish hK (fun x hx => by cases x <;> simp [pmOk] at hx; exact ⟨_, rfl⟩) (fun ι S S' H d d' v ds vs Q sr r rs hf c => by
      match ds, hf, rs with
      | [x], hf, rs =>
        obtain ⟨u, rfl, ru⟩ := rs.one
        simp only [pmV] at hf
        split at hf
        · rename_i ys hd
          split at hf
          · rename_i hk
            simp only [Bool.and_eq_true, decide_eq_true_eq] at hk
            obtain ⟨⟨⟨k1, k2⟩, k3⟩, k4⟩ := hk
            obtain ⟨n, hn, hf⟩ := map_some' hf
            simp only [Prod.mk.injEq] at hf
            obtain ⟨rfl, rfl⟩ := hf
            obtain ⟨p1, p2⟩ := view_py sr r (by rw [hd]; simpa [D.isPy] using k2)
            rw [hd] at p1 p2
            obtain ⟨q1, q2⟩ := ru.dp k1
            obtain ⟨a, vs, rfl, _, _, _⟩ := view_lst sr r hd
            obtain ⟨hlt, e1, e2⟩ := List.findIdx?_eq_some_iff_getElem.mp hn
            refine ⟨a, u, x.py, D.pys ys, n, ys[n].py, rfl, rfl, ?_, ?_, ?_, ?_, ?_, e1, fun j z hj hz => ?_, c.here sr (.int _)⟩
            · rw [hK]; rw [D.py] at p1; exact p1
            · rw [hK]; exact q1
            · unfold SeqAt.shaped
              rw [Bool.and_eq_true]
              rw [D.py] at p2
              exact ⟨p2, by simpa [D.dep, D.py] using k4⟩
            · unfold SeqAt.shaped
              rw [Bool.and_eq_true]
              exact ⟨q2, by simpa [D.dep] using k3⟩
            · rw [D.pys_map, List.getElem?_map, List.getElem?_eq_getElem hlt]; rfl
            · rw [D.pys_map, List.getElem?_map] at hz
              have hjl : j < ys.length := by omega
              rw [List.getElem?_eq_getElem hjl] at hz
              simp only [Option.map_some, Option.some.injEq] at hz
              rw [← hz]
              have := e2 j hj
              simpa using this
          · cases hf
        · cases hf) h
/-! ### methods of dicts -/
theorem sd_get1 (hK : X.K = G.K) (hu : X.A.units + 1 < cLine) (ho : Sd G X o fo) (ha : Sd G X a fa) (m : M1 X o "get" apos a cpos) : Sd G X (.Call (.Attribute o "get" apos) [a] [] cpos)
    (pmF .get1 fo (fun σ S => (fa σ S).bind fun r => some ([r.1], r.2))) :=
  PE.mono (pe_dget1 hu ho ha m) fun σ H Q ⟨ι, en, S, d, S', er, sr, hf, c⟩ => by
    obtain ⟨⟨x, S1⟩, h1, hf⟩ := bind_some hf
    simp only at hf
    split at hf
    · rename_i hok
      obtain ⟨⟨ds, S2⟩, h2, hf⟩ := bind_some hf
      obtain ⟨⟨y, S2'⟩, h2', h3⟩ := bind_some h2
      simp only [Option.some.injEq, Prod.mk.injEq] at h3
      obtain ⟨rfl, rfl⟩ := h3
      refine ⟨ι, en, S, x, S1, er, sr, h1, fun v H1 ι1 x1 sr1 r1 => ?_⟩
      have : ∃ kvs, deref S1 x = .dic kvs := by cases hd : deref S1 x <;> rw [hd] at hok <;> simp [pmOk] at hok; exact ⟨_, rfl⟩
      obtain ⟨kvs, hd⟩ := this
      obtain ⟨ad, ws, rfl, t, _, _⟩ := view_dic sr1 r1 hd
      refine ⟨ad, rfl, .inl ⟨ws, .inl t⟩, ι1, en, S1, y, S2', er.ext x1, sr1, h2', fun u H2 ι2 x2 sr2 r2 => ?_⟩
      simp only [pmV] at hf
      split at hf
      · rename_i kv2 hd2
        obtain ⟨k, hk, hf⟩ := map_some' hf
        simp only [Prod.mk.injEq] at hf
        obtain ⟨rfl, rfl⟩ := hf
        obtain ⟨ad2, ws2, e2, t2, _, q2⟩ := view_dic sr2 (r1.ext x2) hd2
        cases e2
        have ey := r2.key hk
        subst ey
        refine ⟨_, .inl ⟨ws2, k, .inl t2, rfl, rfl⟩, ?_⟩
        have := q2.look k
        cases hl : lookD k kv2 with
        | none => rw [hl] at this c; simp only at this; rw [this]; exact c _ _ _ (x1.trans x2) sr2 .non
        | some z => rw [hl] at this c; obtain ⟨w, h4, h5⟩ := this; rw [h4]; exact c _ _ _ (x1.trans x2) sr2 h5
      · cases hf
    · cases hf
theorem sd_get2 (hK : X.K = G.K) (hu : X.A.units + 1 < cLine) (ho : Sd G X o fo) (ha : Sd G X a fa) (hb : Sd G X b fb) (m : M2 X o "get" apos a b cpos) : Sd G X (.Call (.Attribute o "get" apos) [a, b] [] cpos)
    (pmF .get2 fo (fun σ S => (fa σ S).bind fun r => (fb σ r.2).bind fun q => some ([r.1, q.1], q.2))) :=
  PE.mono (pe_dget2 hu ho ha hb m) fun σ H Q ⟨ι, en, S, d, S', er, sr, hf, c⟩ => by
    obtain ⟨⟨x, S1⟩, h1, hf⟩ := bind_some hf
    simp only at hf
    split at hf
    · rename_i hok
      obtain ⟨⟨ds, S2⟩, h2, hf⟩ := bind_some hf
      obtain ⟨⟨y, S2'⟩, h2', h3⟩ := bind_some h2
      obtain ⟨⟨y', S3⟩, h3', h4⟩ := bind_some h3
      simp only [Option.some.injEq, Prod.mk.injEq] at h4
      obtain ⟨rfl, rfl⟩ := h4
      refine ⟨ι, en, S, x, S1, er, sr, h1, fun v H1 ι1 x1 sr1 r1 => ?_⟩
      have : ∃ kvs, deref S1 x = .dic kvs := by cases hd : deref S1 x <;> rw [hd] at hok <;> simp [pmOk] at hok; exact ⟨_, rfl⟩
      obtain ⟨kvs, hd⟩ := this
      obtain ⟨ad, ws, rfl, t, _, _⟩ := view_dic sr1 r1 hd
      refine ⟨ad, rfl, .inl ⟨ws, .inl t⟩, ι1, en, S1, y, S2', er.ext x1, sr1, h2', fun u H2 ι2 x2 sr2 r2 => ?_⟩
      refine ⟨ι2, en, S2', y', S3, (er.ext x1).ext x2, sr2, h3', fun u' H3 ι3 x3 sr3 r3 => ?_⟩
      simp only [pmV] at hf
      split at hf
      · rename_i kv2 hd2
        obtain ⟨k, hk, hf⟩ := map_some' hf
        simp only [Prod.mk.injEq] at hf
        obtain ⟨rfl, rfl⟩ := hf
        obtain ⟨ad2, ws2, e2, t2, _, q2⟩ := view_dic sr3 ((r1.ext x2).ext x3) hd2
        cases e2
        have ey := r2.key hk
        subst ey
        refine ⟨_, .inl ⟨ws2, k, .inl t2, rfl, rfl⟩, ?_⟩
        have := q2.look k
        cases hl : lookD k kv2 with
        | none => rw [hl] at this c; simp only at this; rw [this]; exact c _ _ _ ((x1.trans x2).trans x3) sr3 r3
        | some z => rw [hl] at this c; obtain ⟨w, h4, h5⟩ := this; rw [h4]; exact c _ _ _ ((x1.trans x2).trans x3) sr3 h5
      · cases hf
    · cases hf
/-! ### get of a written dict -/
/-- what a written dict says -/
def KSays (K : PySem.W.Frag) (w : World) (d : Addr) (kvs : List (D × D)) : Prop := ∃ es n, KDict K w d es n ∧ ∀ z : Str, match lookD (.inr z) kvs with
  | some x => ∃ u0 v0, findBy Value.isStrOf es z = some u0 ∧ RelV v0 u0 ∧ ∀ (G : Cn) ι H, G.K = K → Rep G ι H x v0
  | none => findBy Value.isStrOf es z = none
def cgetF (kvs : List (D × D)) (fk fd : EF) : EF := fun σ S => (fk σ S).bind fun r => (fd σ r.2).bind fun q => match r.1 with
    | .str s => some ((lookD (.inr s) kvs).getD q.1, q.2)
    | _ => none
theorem sd_cget (hK : X.K = G.K) {x : Str} {d : Addr} {kvs : List (D × D)} (hg : Gl X x) (hm : X.mg x = some (.ref d)) (hx : (x == ("__debug__" : Str)) = false) (kd : KSays X.K X.w d kvs) (ha : Sd G X a fa) (hb : Sd G X b fb) (m : M2 X (.Name x p) "get" apos a b cpos) :
    Sd G X (.Call (.Attribute (.Name x p) "get" apos) [a, b] [] cpos) (cgetF kvs fa fb) := by
  refine ⟨fun pins s σ H Q I ⟨ι, en, S, dd, S', er, sr, hf, c⟩ => ?_⟩
  obtain ⟨es, n, KD, hs⟩ := kd
  obtain ⟨⟨y, S1⟩, h1, hf⟩ := bind_some hf
  obtain ⟨⟨y', S2⟩, h2, hf⟩ := bind_some hf
  refine wpAny_Call_method m.base m.few m.line PySem.F.plainAttrs_dict PySem.F.slot_dict_get PySem.F.type_dict_get (ld_glob I hg hm ?_ hx)
  refine ⟨kd_type KD I, fun b q => ?_, ?_⟩
  · cases q
    exact ⟨_, I.kIn d _ KD.at_, rfl⟩
  rw [m.trees]
  refine Calls.callWith_builtin rfl (Calls.evalArgs_plain (Calls.spliced_cons (thn (ha.run pins s σ H (fun v H' => ∃ ι1, Ext ι H ι1 H' ∧ SR G ι1 S1 H' ∧ Rep G ι1 H' y v) I ⟨ι, en, S, y, S1, er, sr, h1, fun v H1 ι1 x1 sr1 r1 => ⟨ι1, x1, sr1, r1⟩⟩) fun iv s2 ⟨v, H2, I2, ry, ι1, x1, sr1, r1⟩ =>
    Calls.spliced_cons (thn (hb.run pins s2 σ H2 (fun v H' => ∃ ι2, Ext ι1 H2 ι2 H' ∧ SR G ι2 S2 H' ∧ Rep G ι2 H' y' v) I2 ⟨ι1, en, S1, y', S2, er.ext x1, sr1, h2, fun v H3 ι3 x3 sr3 r3 => ⟨ι3, x3, sr3, r3⟩⟩) fun fv s3 ⟨u, H3, I3, rz, ι2, x2, sr2, r2⟩ => Calls.spliced_nil ?_))))
  cases y with
  | str z =>
    simp only [Option.some.injEq, Prod.mk.injEq] at hf
    obtain ⟨rfl, rfl⟩ := hf
    cases r1 with
    | str _ hz =>
    obtain ⟨t, rfl⟩ := ry
    have mo := PySem.W.mapOf_K (prog := X.prog) (w := X.w) I3.kIn KD.at_ KD.lit
    refine call_meetsIn PySem.F.slot_dict_get mo.typeIs PySem.F.entry_dict_get (PySem.F.args_dict_get_3 _ _ _) (meets_dict_get_default (strKind X.prog X.w) d (strKind_is X.prog X.w z t) KD.low fv) ⟨_, mo, ?_⟩
    have h4 := hs z
    cases hl : lookD (.inr z) kvs with
    | none =>
      rw [hl] at h4 c
      simp only at h4
      rw [h4]
      exact ⟨u, H3, I3.tok _, rz, c _ _ _ (x1.trans x2) sr2 r2⟩
    | some q =>
      rw [hl] at h4 c
      obtain ⟨u0, v0, h5, h6, h7⟩ := h4
      rw [h5]
      exact ⟨v0, H3, I3.tok _, h6, c _ _ _ (x1.trans x2) sr2 (h7 G ι2 H3 hK.symm)⟩
  | _ => simp at hf
/-! ### list(range(..)) -/
theorem rg_reps {ι : List Addr} {H : Hp} {lo hi : Int} : Reps G ι H (rng lo hi) (rgV lo hi) := by
  unfold rng rgV
  induction (List.range (hi - lo).toNat) with
  | nil => exact .nil
  | cons i r ih => exact .cons (.int _) ih
theorem rg_ok {a b : Int} (h : okRng a b = true) : RgOk a b := by
  obtain ⟨h1, h2, h3, h4, h5⟩ := okRng_iff h
  refine ⟨h1, h2, h3, h4, ?_⟩
  rw [sizeLine_eq] at h5
  omega
theorem rg_new {ι : List Addr} {H : Hp} {S : Store} {lo hi : Int} {Q : VK} (h : okRng lo hi = true) (sr : SR G ι S H) (c : Cont G ι H S (.lst (rng lo hi)) Q) {q : Addr} (hq : H q = none) : Q (.ref q) (upd H q (.lst (rgV lo hi))) :=
  c.lst sr rg_reps (by rw [rgV_length]; exact (okRng_iff h).2.2.2.2) hq
theorem sd_listRg1 (hc : X.calm = true) (hg : Gl X "range") (hm : X.mg "range" = none) (hg2 : Gl X "list") (hm2 : X.mg "list" = none) (ha : Sd G X a fa) (na : starEach [a] X.env = (false, eval a X.env) :: starEach [] X.env) :
    Sd G X (.Call (.Name "list" p) [.Call (.Name "range" p2) [a] [] pos] [] cpos) (fun σ S => (fa σ S).bind fun r => (prim .listRange [.int 0, deref r.2 r.1]).map (·, r.2)) :=
  PE.mono (pe_listRg hc hg2 hm2 (prg_1 hg hm ha na)) fun σ H Q ⟨ι, en, S, d, S', er, sr, hf, c⟩ => by
    obtain ⟨⟨x, S1⟩, h1, hf⟩ := bind_some hf
    obtain ⟨z, h2, hf⟩ := map_some' hf
    simp only [Prod.mk.injEq] at hf
    obtain ⟨rfl, rfl⟩ := hf
    refine ⟨ι, en, S, x, S1, er, sr, h1, fun v H1 ι1 x1 sr1 r1 => ?_⟩
    cases hx : deref S1 x with
    | int n =>
      rw [hx] at h2
      simp only [prim] at h2
      split at h2
      · rename_i hok
        simp only [Option.some.injEq] at h2
        subst h2
        exact ⟨n, view_int r1 hx, rg_ok hok, fun q hq => rg_new hok sr1 (fun w H2 ι2 x2 sr2 r2 => c w H2 ι2 (x1.trans x2) sr2 r2) hq⟩
      · cases h2
    | _ => rw [hx] at h2; simp [prim] at h2

/-! ### calls -/
/-- what a def promises: r by data, whatever is hidden -/
def SpF (B : Cn) (n : Nat) (r : List D → Store → Option (D × Store)) : Sp := fun vs H Q _ => ∃ (G : Cn) (ι : List Addr) (S : Store) (ds : List D) (d : D) (S' : Store), G.K = B.K ∧ G.ca = B.ca ∧ G.nc = B.nc ∧ SR G ι S H ∧ Reps G ι H ds vs ∧ ds.length = n ∧ r ds S = some (d, S') ∧ Cont G ι H S' d Q
/-- a def that is there -/
structure Fnd (X : Cx) (B : Cn) (k : Nat) (f : Addr) (n : Nat) (r : List D → Store → Option (D × Store)) : Prop where
  ex : ∃ fd ps, ps.length = n ∧ FnOk X.prog X.w X.K X.mg X.base CX0 k f fd ps (SpF B n r) ∧ Binds X.K fd ps []
def callF (n : Nat) (fs : AF) (r : List D → Store → Option (D × Store)) : EF := fun σ S => (fs σ S).bind fun q => if q.1.length = n then r q.1 q.2 else none
section
variable {B : Cn} {k n : Nat} {f C : Addr} {x : Str} {r : List D → Store → Option (D × Store)}
theorem call_wish (h1 : G.K = B.K) (h2 : G.ca = B.ca) (h3 : G.nc = B.nc) {σ : L2.St} {H : Hp} {Q : VK} {E : XK} (h : rd G (callF n fs r) σ H Q) : tCall (SpF B n r) [] E (rdA G fs) σ H Q := by
  obtain ⟨ι, en, S, d, S', er, sr, hf, c⟩ := h
  obtain ⟨⟨ds, S1⟩, e1, hf⟩ := bind_some hf
  simp only at hf
  split at hf
  · rename_i hl
    refine ⟨ι, en, S, ds, S1, er, sr, e1, fun vs H1 ι1 x1 sr1 r1 => ?_⟩
    exact ⟨G, ι1, S1, ds, d, S', h1, h2, h3, sr1, by rw [List.append_nil]; exact r1, hl, hf, fun w H2 ι2 x2 sr2 r2 => c w H2 ι2 (x1.trans x2) sr2 r2⟩
  · cases hf
theorem sd_call (h1 : G.K = B.K) (h2 : G.ca = B.ca) (h3 : G.nc = B.nc) (F : Fnd X B k f n r) (hr : Room k X.A) (hg : Gl X x) (hm : X.mg x = some (.ref f)) (hk : PySem.W.keepIn X.K (.ref f) = true) (ha : Sda G X (e :: es) fs)
    (hd : (x == ("__debug__" : Str)) = false) (he : starEach (e :: es) X.env = (false, eval e X.env) :: starEach es X.env) (hpl : (backTo pos (starEach es X.env)).any (·.1) = false) :
    Sd G X (.Call (.Name x p) (e :: es) [] pos) (callF n fs r) := by
  obtain ⟨fd, ps, hl, F, hb⟩ := F.ex
  exact PE.mono (pe_call (E := E0) F hr hg hm hk hb .nil pass0 ha hd he hpl) fun σ H Q h => call_wish h1 h2 h3 h
theorem sd_call0 (h1 : G.K = B.K) (h2 : G.ca = B.ca) (h3 : G.nc = B.nc) (F : Fnd X B k f n r) (hr : Room k X.A) (hg : Gl X x) (hm : X.mg x = some (.ref f)) (hk : PySem.W.keepIn X.K (.ref f) = true) (hd : (x == ("__debug__" : Str)) = false) :
    Sd G X (.Call (.Name x p) [] [] pos) (callF n (fun _ S => some ([], S)) r) := by
  obtain ⟨fd, ps, hl, F, hb⟩ := F.ex
  refine PE.mono (pe_call0 (E := E0) F hr hg hm hk hb .nil pass0 hd) fun σ H Q h => ?_
  obtain ⟨ι, en, S, d, S', er, sr, hf, c⟩ := h
  simp only [callF, Option.bind_some] at hf
  split at hf
  · rename_i hl'
    exact ⟨G, ι, S, [], d, S', h1, h2, h3, sr, .nil, hl', hf, c⟩
  · cases hf

def newF (cl n : Nat) (fs : AF) (r : List D → Store → Option (D × Store)) : EF := fun σ S => (fs σ S).bind fun q => if q.1.length + 1 = n then (r (.ref q.2.length :: q.1) (q.2 ++ [.ins cl []])).bind fun z => match z.1 with
    | .non => some (.ref q.2.length, z.2)
    | _ => none else none
theorem new_wish {cl : Nat} (h1 : G.K = B.K) (h2 : G.ca = B.ca) (h3 : G.nc = B.nc) (hcl : cl < G.nc) (hC : C = G.ca cl) {ι : List Addr} {H1 : Hp} {S1 : Store} {ds : List D} {vs : List V} {d : D} {S' : Store} {Q : VK} {E : XK} (sr1 : SR G ι S1 H1) (r1 : Reps G ι H1 ds vs) (hl : ds.length + 1 = n)
    (hf : ((r (.ref S1.length :: ds) (S1 ++ [.ins cl []])).bind fun z => match z.1 with
      | .non => some (D.ref S1.length, z.2)
      | _ => none) = some (d, S')) (c : Cont G ι H1 S' d Q) (y dx : Addr) (hy : H1 y = none) (hdx : H1 dx = none) (hne : dx ≠ y) :
    SpF B n r (.ref y :: (vs ++ [])) (upd (upd H1 dx (.own y)) y (.ins C dx [])) (fun v H2 => v = .non ∧ Q (.ref y) H2) E := by
  obtain ⟨⟨z, S2⟩, e1, hf⟩ := bind_some hf
  have srd := new_sr sr1 hdx (.own y)
  have xd := new_ext sr1 hdx (.own y)
  have hy' : upd H1 dx (.own y) y = none := by rw [upd_ne (Ne.symm hne)]; exact hy
  have x2 := cell_ext srd hy' (.ins C dx [])
  have sr2 : SR G (ι ++ [y]) (S1 ++ [.ins cl []]) (upd (upd H1 dx (.own y)) y (.ins C dx [])) := cell_sr srd hy' ⟨hcl, dx, [], by rw [hC]; exact upd_same, Nat.zero_le _, .nil⟩
  have hat : (ι ++ [y])[S1.length]? = some y := by
    rw [← sr1.len, List.getElem?_append_right (Nat.le_refl _)]
    simp
  refine ⟨G, ι ++ [y], S1 ++ [.ins cl []], .ref S1.length :: ds, z, S2, h1, h2, h3, sr2, .cons (.ref hat) (by rw [List.append_nil]; exact (r1.ext xd).ext x2), by simpa using hl, e1, fun v H3 ι3 x3 sr3 r3 => ?_⟩
  cases z with
  | non =>
    simp only [Option.some.injEq, Prod.mk.injEq] at hf
    obtain ⟨rfl, rfl⟩ := hf
    cases r3
    exact ⟨rfl, c _ _ _ ((xd.trans x2).trans x3) sr3 (.ref (x3.get hat))⟩
  | _ => simp at hf
theorem sd_new {cl : Nat} (h1 : G.K = B.K) (h2 : G.ca = B.ca) (h3 : G.nc = B.nc) (hcl : cl < G.nc) (M : Mk X.K (G.ca cl) f) (F : Fnd X B k f n r) (hr : Room (k + 1) X.A) (hg : Gl X x) (hm : X.mg x = some (.ref (G.ca cl))) (ha : Sda G X (e :: es) fs)
    (hd : (x == ("__debug__" : Str)) = false) (he : starEach (e :: es) X.env = (false, eval e X.env) :: starEach es X.env) (hpl : (backTo pos (starEach es X.env)).any (·.1) = false) :
    Sd G X (.Call (.Name x p) (e :: es) [] pos) (newF cl n fs r) := by
  obtain ⟨fd, ps, hl, F, hb⟩ := F.ex
  refine PE.mono (pe_make (E := E0) M F hr hg hm hb .nil pass0 ha hd he hpl) fun σ H Q h => ?_
  obtain ⟨ι, en, S, d, S', er, sr, hf, c⟩ := h
  obtain ⟨⟨ds, S1⟩, e1, hf⟩ := bind_some hf
  simp only at hf
  split at hf
  · rename_i hl'
    refine ⟨ι, en, S, ds, S1, er, sr, e1, fun vs H1 ι1 x1 sr1 r1 y dx hy hdx hne => ?_⟩
    exact new_wish h1 h2 h3 hcl rfl sr1 r1 hl' hf (fun w H2 ι2 x2 sr2 r2 => c w H2 ι2 (x1.trans x2) sr2 r2) y dx hy hdx hne
  · cases hf

/-- the methods of the classes -/
structure Mths (X : Cx) (B : Cn) (k : Nat) (m : Str) (C : Cal) (nf : Nat → Nat) : Prop where
  get : ∀ cl f, C.meth cl m = some f → ∃ fa, Cls X.K (B.ca cl) ∧ Meth X.K (B.ca cl) m fa ∧ Fnd X B k fa (nf f) (C.fn f)
def methF (C : Cal) (nf : Nat → Nat) (m : Str) (fo : EF) (fs : AF) : EF := fun σ S => (fo σ S).bind fun r => (match r.1 with
    | .ref n => (match r.2[n]? with
      | some (.ins c fds) => if (lookF m fds).isSome then none else (C.meth c m).bind fun f => (fs σ r.2).bind fun q => (match q.2[n]? with
        | some (.ins c' _) => if c' = c then (if q.1.length + 1 = nf f then C.fn f (.ref n :: q.1) q.2 else none) else none
        | _ => none)
      | _ => none)
    | _ => none)
theorem sd_meth {CC : Cal} {nf : Nat → Nat} {m : Str} {pl : Sem Bool} (h1 : G.K = B.K) (h2 : G.ca = B.ca) (h3 : G.nc = B.nc) (M : Mths X B k m CC nf) (hr : Room k X.A) (ho : Sd G X o fo) (ha : Sda G X (e :: es) fs)
    (hst : starEach (e :: es) X.env = (false, eval e X.env) :: starEach es X.env) (hpl : (backTo pos (starEach es X.env)).any (·.1) = false)
    (ht : eval (.Call (.Attribute o m apos) (e :: es) [] pos) X.env = (do
      let ov ← eval o X.env
      standAt apos.atName
      let (f, first) ← holding [ov] (getMethod ov m pl)
      callWith pos f first (backTo pos (starEach (e :: es) X.env)) (backToKw pos (keywordEach [] X.env)))) :
    Sd G X (.Call (.Attribute o m apos) (e :: es) [] pos) (methF CC nf m fo fs) :=
  PE.pick fun σ H Q ⟨ι, en, S, d, S', er, sr, hf, c⟩ => by
    obtain ⟨⟨x, S1⟩, e1, hf⟩ := bind_some hf
    cases x with
    | ref i =>
      simp only at hf
      split at hf
      · rename_i cl fds hcell
        split at hf
        · cases hf
        · rename_i hno
          obtain ⟨f, hcm, hf1⟩ := bind_some hf
          obtain ⟨⟨ds, S2⟩, e2, hf2⟩ := bind_some hf1
          clear hf hf1
          simp only at hf2
          split at hf2
          · rename_i cl' fds' hcell'
            split at hf2
            · rename_i hcc
              subst hcc
              split at hf2
              · rename_i hl
                obtain ⟨fa, hC, hM, F⟩ := M.get cl' f hcm
                obtain ⟨fd, ps, hpl', F, hb⟩ := F.ex
                refine ⟨_, pe_meth (E := E0) ho hC hM F hr hb .nil pass0 ha hst hpl ht, ι, en, S, .ref i, S1, er, sr, e1, fun v H1 ι1 x1 sr1 r1 => ?_⟩
                cases r1 with
                | @ref _ ad hn =>
                obtain ⟨b, hb', hcc, dx, ws, q, _, rf⟩ := sr1.cell i _ hcell
                rw [hn] at hb'
                cases hb'
                refine ⟨ad, dx, ws, rfl, by rw [← h2]; exact q, rf.none (by simpa using hno), ι1, en, S1, ds, S2, er.ext x1, sr1, e2, fun vs H2 ι2 x2 sr2 r2 => ?_⟩
                exact ⟨G, ι2, S2, .ref i :: ds, d, S', h1, h2, h3, sr2, by rw [List.append_nil]; exact .cons (.ref (x2.get hn)) r2, by simpa using hl, hf2, fun w H3 ι3 x3 sr3 r3 => c w H3 ι3 ((x1.trans x2).trans x3) sr3 r3⟩
              · cases hf2
            · cases hf2
          · cases hf2
      · cases hf
    | _ => simp at hf
theorem sd_meth0 {CC : Cal} {nf : Nat → Nat} {m : Str} {pl : Sem Bool} (h1 : G.K = B.K) (h2 : G.ca = B.ca) (h3 : G.nc = B.nc) (M : Mths X B k m CC nf) (hr : Room k X.A) (ho : Sd G X o fo)
    (ht : eval (.Call (.Attribute o m apos) [] [] pos) X.env = (do
      let ov ← eval o X.env
      standAt apos.atName
      let (f, first) ← holding [ov] (getMethod ov m pl)
      callWith pos f first (backTo pos (starEach [] X.env)) (backToKw pos (keywordEach [] X.env)))) :
    Sd G X (.Call (.Attribute o m apos) [] [] pos) (methF CC nf m fo (fun _ S => some ([], S))) :=
  PE.pick fun σ H Q ⟨ι, en, S, d, S', er, sr, hf, c⟩ => by
    obtain ⟨⟨x, S1⟩, e1, hf⟩ := bind_some hf
    cases x with
    | ref i =>
      simp only at hf
      split at hf
      · rename_i cl fds hcell
        split at hf
        · cases hf
        · rename_i hno
          obtain ⟨f, hcm, hf1⟩ := bind_some hf
          simp only [Option.bind_some] at hf1
          rw [hcell] at hf1
          simp only [if_true] at hf1
          split at hf1
          · rename_i hl
            obtain ⟨fa, hC, hM, F⟩ := M.get cl f hcm
            obtain ⟨fd, ps, hpl', F, hb⟩ := F.ex
            refine ⟨_, pe_meth0 (E := E0) ho hC hM F hr hb .nil pass0 ht, ι, en, S, .ref i, S1, er, sr, e1, fun v H1 ι1 x1 sr1 r1 => ?_⟩
            cases r1 with
            | @ref _ ad hn =>
            obtain ⟨b, hb', hcc, dx, ws, q, _, rf⟩ := sr1.cell i _ hcell
            rw [hn] at hb'
            cases hb'
            refine ⟨ad, dx, ws, rfl, by rw [← h2]; exact q, rf.none (by simpa using hno), ?_⟩
            exact ⟨G, ι1, S1, [.ref i], d, S', h1, h2, h3, sr1, .cons (.ref hn) .nil, by simpa using hl, hf1, fun w H3 ι3 x3 sr3 r3 => c w H3 ι3 (x1.trans x3) sr3 r3⟩
          · cases hf1
      · cases hf
    | _ => simp at hf
end
end
end Fw
end
section
set_option Elab.async false
set_option linter.all false
set_option autoImplicit false
set_option maxRecDepth 100000
set_option maxHeartbeats 4000000
/-! Fw12: statements. -/
namespace Fw
open PySem PySem.Spec PyProof.Rows L2
abbrev SF := Ev → Store → Res
abbrev Sss (G : Cn) (X : Cx) (sts : List Stmt) (f : SF) : Prop := PSs X sts (rdS G f)
section
variable {X : Cx} {G : Cn} {e a b c o i tg iter : Expr} {es : List Expr} {f fa fb fc fo fi fv : EF} {fs : AF} {s t : SF} {st : Stmt} {sts body : List Stmt} {pos p p2 pos' tpos : Pos} {x : Str}
theorem PSs.mono {t t' : TS} (h : PSs X sts t) (w : ∀ D σ H, t' D σ H → t D σ H) : PSs X sts t' := ⟨fun pins s σ H D I q => h.run pins s σ H D I (w D σ H q)⟩
theorem PS.pick {t' : TS} (w : ∀ D σ H, t' D σ H → ∃ t, PS X st t ∧ t D σ H) : PS X st t' := ⟨fun pins s σ H D I q => let ⟨_, h, q'⟩ := w D σ H q; h.run pins s σ H D I q'⟩
theorem sss_nil : Sss G X [] (fun σ S => some (.nx, σ, S)) := PSs.mono pss_nil fun D σ H ⟨ι, en, S, r, er, sr, hf, c⟩ => by
  simp only [Option.some.injEq] at hf
  subst hf
  exact c _ _ _ Ext.refl sr er
def seqF (s t : SF) : SF := fun σ S => (s σ S).bind fun q => match q.1 with
    | .nx => t q.2.1 q.2.2
    | _ => some q
theorem sss_cons (h : Ss G X st s) (h2 : Sss G X sts t) : Sss G X (st :: sts) (seqF s t) := PSs.mono (pss_cons h h2) fun D σ H ⟨ι, en, S, r, er, sr, hf, c⟩ => by
  obtain ⟨⟨fl, e1, S1⟩, h1, hf⟩ := bind_some hf
  refine ⟨ι, en, S, (fl, e1, S1), er, sr, h1, fun σ1 H1 ι1 x1 sr1 er1 => ?_⟩
  cases fl with
  | nx =>
    simp only at hf ⊢
    exact ⟨ι1, e1, S1, r, er1, sr1, hf, fun σ2 H2 ι2 x2 sr2 er2 => c σ2 H2 ι2 (x1.trans x2) sr2 er2⟩
  | bk =>
    simp only [Option.some.injEq] at hf
    subst hf
    exact c σ1 H1 ι1 x1 sr1 er1
  | ct =>
    simp only [Option.some.injEq] at hf
    subst hf
    exact c σ1 H1 ι1 x1 sr1 er1
  | rt d =>
    simp only [Option.some.injEq] at hf
    subst hf
    exact c σ1 H1 ι1 x1 sr1 er1
theorem ss_doc {j : Nat} {z : Str} : Ss G X (.Expr (.Constant (.str z) j p) pos) (fun σ S => some (.nx, σ, S)) := PS.mono ps_doc fun D σ H ⟨ι, en, S, r, er, sr, hf, c⟩ => by
  simp only [Option.some.injEq] at hf
  subst hf
  exact c _ _ _ Ext.refl sr er
theorem ss_pass : Ss G X (.Pass pos) (fun σ S => some (.nx, σ, S)) := PS.mono ps_pass fun D σ H ⟨ι, en, S, r, er, sr, hf, c⟩ => by
  simp only [Option.some.injEq] at hf
  subst hf
  exact c _ _ _ Ext.refl sr er
theorem ss_brk : Ss G X (.Break pos) (fun σ S => some (.bk, σ, S)) := PS.mono ps_break fun D σ H ⟨ι, en, S, r, er, sr, hf, c⟩ => by
  simp only [Option.some.injEq] at hf
  subst hf
  exact c _ _ _ Ext.refl sr er
theorem ss_cont : Ss G X (.Continue pos) (fun σ S => some (.ct, σ, S)) := PS.mono ps_continue fun D σ H ⟨ι, en, S, r, er, sr, hf, c⟩ => by
  simp only [Option.some.injEq] at hf
  subst hf
  exact c _ _ _ Ext.refl sr er
theorem ss_never : Ss G X st (fun _ _ => none) := PS.mono ps_never fun D σ H ⟨ι, en, S, r, er, sr, hf, c⟩ => by cases hf
theorem ss_expr (he : Sd G X e f) (hs : swapsWith e none pos.line X.env = pure false) : Ss G X (.Expr e pos) (fun σ S => (f σ S).bind fun r => some (.nx, σ, r.2)) :=
  PS.mono (ps_expr he hs) fun D σ H ⟨ι, en, S, r, er, sr, hf, c⟩ => by
    obtain ⟨⟨d, S1⟩, h1, hf⟩ := bind_some hf
    simp only [Option.some.injEq] at hf
    subst hf
    exact ⟨ι, en, S, d, S1, er, sr, h1, fun v H1 ι1 x1 sr1 r1 => c _ _ _ x1 sr1 (er.ext x1)⟩
theorem ss_ret (he : Sd G X e f) : Ss G X (.Return (some e) pos) (fun σ S => (f σ S).bind fun r => some (.rt r.1, σ, r.2)) :=
  PS.mono (ps_ret he) fun D σ H ⟨ι, en, S, r, er, sr, hf, c⟩ => by
    obtain ⟨⟨d, S1⟩, h1, hf⟩ := bind_some hf
    simp only [Option.some.injEq] at hf
    subst hf
    exact ⟨ι, en, S, d, S1, er, sr, h1, fun v H1 ι1 x1 sr1 r1 => c σ _ _ x1 sr1 (er.ext x1) v r1⟩
theorem ss_retN : Ss G X (.Return none pos) (fun σ S => some (.rt .non, σ, S)) :=
  PS.mono ps_retN fun D σ H ⟨ι, en, S, r, er, sr, hf, c⟩ => by
    simp only [Option.some.injEq] at hf
    subst hf
    exact c σ _ _ Ext.refl sr er .non .non
def asgF (t : T) (f : EF) : SF := fun σ S => (f σ S).bind fun r => (bindT t r.1 σ).bind fun σ' => some (.nx, σ', r.2)
theorem ss_set {j : Nat} (hN : X.N.Nodup) (hi : X.N[j]? = some x) (hx : Loc X.env.scope x) (he : Sd G X e f) (hs : swapsWith e (some (.Name x pos')) pos.line X.env = pure false) (hf : X.fn x = true ∨ X.env.scope.names.lookup x = some .local) :
    Ss G X (.Assign [.Name x pos'] e pos) (asgF (.name j) f) := PS.mono (ps_set hN hi hx he hs hf) fun D σ H h => asg_wish h
theorem ss_asgT {t : T} (he : Sd G X e f) (hg : PG X tg (rdG G t)) (hs : swapsWithSole [tg] e pos.line X.env = pure false) (hw : swappedStores [tg] e X.env = pure none)
    (h1 : (assignEach [tg] X.env).map (·.2) = [assign tg X.env]) : Ss G X (.Assign [tg] e pos) (asgF t f) :=
  PS.mono (ps_asg he hg hs hw h1) fun D σ H ⟨ι, en, S, r, er, sr, hf, c⟩ => by
    obtain ⟨⟨d, S1⟩, h1, hf⟩ := bind_some hf
    obtain ⟨e1, h2, hf⟩ := bind_some hf
    simp only [Option.some.injEq] at hf
    subst hf
    exact ⟨ι, en, S, d, S1, er, sr, h1, fun v H1 ι1 x1 sr1 r1 => ⟨ι1, en, d, e1, er.ext x1, r1, h2, fun σ' er' _ => c σ' H1 ι1 x1 sr1 er'⟩⟩
def parF (is : List Nat) (fs : AF) : SF := fun σ s => (fs σ s).bind fun r => (bindL is r.1 σ).bind fun σ' => some (.nx, σ', r.2)
theorem ss_par {j k : Nat} {y : Str} {px py pt : Pos} {kt k2 : Nat} {pt2 : Pos} (hc : X.calm = true) (hN : X.N.Nodup) (hi : X.N[j]? = some x) (hj : X.N[k]? = some y) (hij : j ≠ k)
    (hx : X.env.scope.names.lookup x = some .local) (hy : X.env.scope.names.lookup y = some .local) (ha : Sda G X [a, b] fs)
    (hw : swappedStores [.Tuple [.Name x px, .Name y py] kt pt] (.Tuple [a, b] k2 pt2) X.env = pure (some [x, y]))
    (hs : swapsWithSole [.Tuple [.Name x px, .Name y py] kt pt] (.Tuple [a, b] k2 pt2) pos.line X.env = pure false) :
    Ss G X (.Assign [.Tuple [.Name x px, .Name y py] kt pt] (.Tuple [a, b] k2 pt2) pos) (parF [j, k] fs) :=
  PS.mono (ps_par hc hN hi hj hij hx hy ha hw hs) fun D σ H ⟨ι, en, S, r, er, sr, hf, c⟩ => by
    obtain ⟨⟨ds, S1⟩, h1, hf⟩ := bind_some hf
    obtain ⟨e1, h2, hf⟩ := bind_some hf
    simp only [Option.some.injEq] at hf
    subst hf
    refine ⟨ι, en, S, ds, S1, er, sr, h1, fun vs H1 ι1 x1 sr1 r1 => ?_⟩
    match ds, vs, r1, h2 with
    | [d1, d2], _, .cons (v := v1) q1 (.cons (v := v2) q2 .nil), h2 =>
      simp only [bindL, Option.some.injEq] at h2
      subst h2
      exact ⟨v1, v2, rfl, c _ _ _ x1 sr1 (((er.ext x1).set q1).set q2)⟩
    | [], _, .nil, h2 => simp [bindL] at h2
    | [d1], _, .cons _ .nil, h2 => simp [bindL] at h2
    | _ :: _ :: _ :: _, _, .cons _ (.cons _ (.cons _ _)), h2 => simp [bindL] at h2
theorem ss_par3 {j k l : Nat} {y z : Str} {px py pz pt : Pos} {kt k2 : Nat} {pt2 : Pos} (hc : X.calm = true) (hN : X.N.Nodup) (hi : X.N[j]? = some x) (hj : X.N[k]? = some y) (hl : X.N[l]? = some z) (hij : j ≠ k) (hil : j ≠ l) (hjl : k ≠ l)
    (hx : X.env.scope.names.lookup x = some .local) (hy : X.env.scope.names.lookup y = some .local) (hz : X.env.scope.names.lookup z = some .local) (ha : Sda G X [a, b, c] fs)
    (hw : swappedStores [.Tuple [.Name x px, .Name y py, .Name z pz] kt pt] (.Tuple [a, b, c] k2 pt2) X.env = pure (some [x, y, z]))
    (hs : swapsWithSole [.Tuple [.Name x px, .Name y py, .Name z pz] kt pt] (.Tuple [a, b, c] k2 pt2) pos.line X.env = pure false) :
    Ss G X (.Assign [.Tuple [.Name x px, .Name y py, .Name z pz] kt pt] (.Tuple [a, b, c] k2 pt2) pos) (parF [j, k, l] fs) :=
  PS.mono (ps_par3 hc hN hi hj hl hij hil hjl hx hy hz ha hw hs) fun D σ H ⟨ι, en, S, r, er, sr, hf, c⟩ => by
    obtain ⟨⟨ds, S1⟩, h1, hf⟩ := bind_some hf
    obtain ⟨e1, h2, hf⟩ := bind_some hf
    simp only [Option.some.injEq] at hf
    subst hf
    refine ⟨ι, en, S, ds, S1, er, sr, h1, fun vs H1 ι1 x1 sr1 r1 => ?_⟩
    match ds, vs, r1, h2 with
    | [d1, d2, d3], _, .cons (v := v1) q1 (.cons (v := v2) q2 (.cons (v := v3) q3 .nil)), h2 =>
      simp only [bindL, Option.some.injEq] at h2
      subst h2
      exact ⟨v1, v2, v3, rfl, c _ _ _ x1 sr1 ((((er.ext x1).set q1).set q2).set q3)⟩
    | [], _, .nil, h2 => simp [bindL] at h2
    | [d1], _, .cons _ .nil, h2 => simp [bindL] at h2
    | [d1, d2], _, .cons _ (.cons _ .nil), h2 => simp [bindL] at h2
    | _ :: _ :: _ :: _ :: _, _, .cons _ (.cons _ (.cons _ (.cons _ _))), h2 => simp [bindL] at h2
/-- o[i] = v -/
def setIF (fo fi fv : EF) : SF := fun σ s => (fv σ s).bind fun r => (fo σ r.2).bind fun q => (fi σ q.2).bind fun t => (setI t.2 q.1 t.1 r.1).bind fun s' => some (.nx, σ, s')
theorem ss_setI (hu : X.A.units + 1 < cLine) (hv : Sd G X e fv) (ho : Sd G X o fo) (hi : Sd G X i fi)
    (hs0 : swapsWith e (some (.Subscript o i pos')) pos.line X.env = pure false) (hs : swapsWithSole [.Subscript o i pos'] e pos.line X.env = pure false) (hw : swappedStores [.Subscript o i pos'] e X.env = pure none) (h1 : (assignEach [.Subscript o i pos'] X.env).map (·.2) = [assign (.Subscript o i pos') X.env])
    (ha : ∀ v, assign (.Subscript o i pos') X.env v = (do
      let ov ← holding [v] (eval o X.env)
      let iv ← holding [v, ov] (eval i X.env)
      standAt pos'
      holding [v, ov, iv] (setItem ov iv v)
      release [v, ov, iv] [])) :
    Ss G X (.Assign [.Subscript o i pos'] e pos) (setIF fo fi fv) :=
  PS.pick fun D σ H ⟨ι, en, S, r, er, sr, hf, c⟩ => by
    obtain ⟨⟨d, S1⟩, e1, hf⟩ := bind_some hf
    obtain ⟨⟨od, S2⟩, e2, hf⟩ := bind_some hf
    obtain ⟨⟨idd, S3⟩, e3, hf⟩ := bind_some hf
    obtain ⟨S4, e4, hf⟩ := bind_some hf
    simp only [Option.some.injEq] at hf
    subst hf
    match od, e2, e4 with
    | .ref n, e2, e4 =>
      simp only [setI] at e4
      split at e4
      · rename_i xs hc
        split at e4
        · rename_i k ez
          obtain ⟨j, hj, e4⟩ := map_some' e4
          subst e4
          refine ⟨_, ps_asg hv (pg_sub ho hi set_list ha) hs hw h1, ι, en, S, d, S1, er, sr, e1, fun v H1 ι1 x1 sr1 r1 => ?_⟩
          refine ⟨ι1, en, S1, .ref n, S2, er.ext x1, sr1, e2, fun ov H2 ι2 x2 sr2 r2 => ?_⟩
          refine ⟨ι2, en, S2, .int k, S3, (er.ext x1).ext x2, sr2, e3, fun iv H3 ι3 x3 sr3 r3 => ?_⟩
          cases r3
          cases r2.ext x3 with
          | @ref _ ad hn =>
          obtain ⟨ad', ea, ws, hw', z, q⟩ := sr3.cell n _ hc
          rw [hn] at ea
          cases ea
          have x' := set_ext sr3 hn (.lst (ws.set j v))
          refine ⟨ad, ws, k, j, rfl, rfl, hw', by rw [← q.length]; exact hj, ?_⟩
          exact c _ _ _ (((x1.trans x2).trans x3).trans x') (set_sr sr3 hn ⟨_, upd_same, by rw [List.length_set]; exact z, (q.set j ((r1.ext x2).ext x3)).ext x'⟩) ((((er.ext x1).ext x2).ext x3).ext x')
        · cases e4
      · rename_i kvs hc
        split at e4
        · rename_i hk
          rw [Bool.and_eq_true, decide_eq_true_eq] at hk
          obtain ⟨q, hq⟩ := Option.isSome_iff_exists.mp hk.1
          have hl := hk.2
          rw [LIM_eq] at hl
          simp only [Option.some.injEq] at e4
          subst e4
          refine ⟨_, ps_dput hu ho hi hv hs0, ι, en, S, d, S1, er, sr, e1, fun v H1 ι1 x1 sr1 r1 => ?_⟩
          refine ⟨ι1, en, S1, .ref n, S2, er.ext x1, sr1, e2, fun ov H2 ι2 x2 sr2 r2 => ?_⟩
          refine ⟨ι2, en, S2, idd, S3, (er.ext x1).ext x2, sr2, e3, fun iv H3 ι3 x3 sr3 r3 => ?_⟩
          cases r2.ext x3 with
          | @ref _ ad hn =>
          obtain ⟨ad', ea, ws, hw', z, qq⟩ := sr3.cell n _ hc
          rw [hn] at ea
          cases ea
          have ek := r3.key hq
          subst ek
          have x' := set_ext sr3 hn (.dK (putK ws q v))
          refine ⟨ad, _, rfl, .inl ⟨ws, q, hw', rfl, by rw [← qq.length]; exact hl, rfl⟩, ?_⟩
          refine c _ _ _ (((x1.trans x2).trans x3).trans x') (set_sr sr3 hn ⟨_, upd_same, ?_, (qq.put hq r3 ((r1.ext x2).ext x3)).ext x'⟩) ((((er.ext x1).ext x2).ext x3).ext x')
          have h6 := length_putK ws q v
          have h5 := qq.length
          omega
        · cases e4
      · cases e4
/-- o.f = v -/
theorem RepF.put {ι : List Addr} {H : Hp} {fd : Str} {d : D} {v : V} (q : Rep G ι H d v) : ∀ {fs : List (Str × D)} {vs : List (Str × V)}, RepF G ι H fs vs → RepF G ι H (Fw.putF fd d fs) (L2.putF fd v vs)
  | _, _, .nil => .cons q .nil
  | (g, w) :: r, _, .cons h t => by
    unfold Fw.putF L2.putF
    by_cases z : g = fd
    · rw [if_pos z, if_pos z]; exact .cons q t
    · rw [if_neg z, if_neg z]; exact .cons h (RepF.put q t)
theorem putF_length (fd : Str) (v : V) : ∀ vs : List (Str × V), (L2.putF fd v vs).length ≤ vs.length + 1
  | [] => Nat.le_refl _
  | (g, x) :: r => by
    unfold L2.putF
    split
    · simp
    · simpa using putF_length fd v r
theorem RepF.length {ι : List Addr} {H : Hp} : ∀ {fs : List (Str × D)} {vs : List (Str × V)}, RepF G ι H fs vs → fs.length = vs.length
  | _, _, .nil => rfl
  | _, _, .cons _ t => by simp [RepF.length t]
def setFF (m : Str) (fo fv : EF) : SF := fun σ s => (fv σ s).bind fun r => (fo σ r.2).bind fun q => (match q.1 with
    | .ref n => (match q.2[n]? with
      | some (.ins c fs) => if fs.length < 1000 then some (.nx, σ, q.2.set n (.ins c (Fw.putF m r.1 fs))) else none
      | _ => none)
    | _ => none)
theorem ss_setF {m : Str} (hv : Sd G X e fv) (ho : Sd G X o fo) (hc : ∀ c, c < G.nc → Cls X.K (G.ca c) ∧ NoAttr X.K (G.ca c) m) (hs : swapsWith e (some (.Attribute o m pos')) pos.line X.env = pure false) :
    Ss G X (.Assign [.Attribute o m pos'] e pos) (setFF m fo fv) :=
  PS.mono (ps_fld ho hv hs) fun D σ H ⟨ι, en, S, r, er, sr, hf, c⟩ => by
    obtain ⟨⟨d, S1⟩, e1, hf⟩ := bind_some hf
    obtain ⟨⟨od, S2⟩, e2, hf⟩ := bind_some hf
    refine ⟨ι, en, S, d, S1, er, sr, e1, fun v H1 ι1 x1 sr1 r1 => ⟨ι1, en, S1, od, S2, er.ext x1, sr1, e2, fun ov H2 ι2 x2 sr2 r2 => ?_⟩⟩
    cases od with
    | ref n =>
      simp only at hf
      split at hf
      · rename_i cl fs hcell
        split at hf
        · rename_i hl
          simp only [Option.some.injEq] at hf
          subst hf
          cases r2 with
          | @ref _ ad hn =>
          obtain ⟨b, hb, hcc, dx, ws, hw, z, q⟩ := sr2.cell n _ hcell
          rw [hn] at hb
          cases hb
          have x' := set_ext sr2 hn (.ins (G.ca cl) dx (L2.putF m v ws))
          have hle := q.length
          have hp := putF_length m v ws
          refine ⟨ad, G.ca cl, dx, ws, rfl, hw, (hc cl hcc).1, (hc cl hcc).2, by omega, c _ _ _ ((x1.trans x2).trans x') (set_sr sr2 hn ⟨hcc, dx, _, upd_same, by omega, (q.put (r1.ext x2)).ext x'⟩) (((er.ext x1).ext x2).ext x')⟩
        · cases hf
      · cases hf
    | _ => simp at hf
/-- x += e -/
theorem ss_augAdd {j : Nat} (hN : X.N.Nodup) (hi : X.N[j]? = some x) (hx : Loc X.env.scope x) (he : Sd G X e f) (hf : X.fn x = true ∨ X.env.scope.names.lookup x = some .local) :
    Ss G X (.AugAssign (.Name x pos') .Add e pos) (fun σ s => (getV σ j).bind fun x => (f σ s).bind fun r => (match x, r.1 with
      | .int _, .int _ => (bin .add x r.1).bind fun y => some (.nx, σ.set j (some y), r.2)
      | _, _ => none)) :=
  PS.mono (ps_aug hN hi hx he ip_add hf) fun D σ H ⟨ι, en, S, r, er, sr, h, c⟩ => by
    obtain ⟨d, hg, h⟩ := bind_some h
    obtain ⟨⟨d', S1⟩, e1, h⟩ := bind_some h
    unfold getV at hg
    rw [Option.join_eq_some_iff] at hg
    obtain ⟨v, hv, rv⟩ := er.at_ j d hg
    refine ⟨v, hv, ι, en, S, d', S1, er, sr, e1, fun u H1 ι1 x1 sr1 r1 => ?_⟩
    cases d with
    | int k =>
      cases d' with
      | int l =>
        simp only [bin, Option.bind_some, Option.some.injEq] at h
        subst h
        cases rv
        cases r1
        exact ⟨k, l, rfl, rfl, c _ _ _ x1 sr1 ((er.ext x1).set (.int _))⟩
      | _ => simp at h
    | _ => simp at h
def ifF (fc : EF) (s t : SF) : SF := fun σ S => (fc σ S).bind fun r => match r.1 with
    | .bl true => s σ r.2
    | .bl false => t σ r.2
    | _ => none
theorem ss_if {sts2 : List Stmt} (hc : Sdt G X e fc) (ha : Sss G X sts s) (hb : Sss G X sts2 t) : Ss G X (.If e sts sts2 pos) (ifF fc s t) :=
  PS.mono (ps_if hc ha hb) fun D σ H ⟨ι, en, S, r, er, sr, hf, c⟩ => by
    obtain ⟨⟨d, S1⟩, e1, hf⟩ := bind_some hf
    cases d with
    | bl k =>
      refine ⟨ι, en, S, k, S1, er, sr, e1, fun H1 ι1 x1 sr1 => ?_⟩
      cases k with
      | true => exact iteT ⟨ι1, en, S1, r, er.ext x1, sr1, hf, fun σ2 H2 ι2 x2 sr2 er2 => c σ2 H2 ι2 (x1.trans x2) sr2 er2⟩
      | false => exact iteF ⟨ι1, en, S1, r, er.ext x1, sr1, hf, fun σ2 H2 ι2 x2 sr2 er2 => c σ2 H2 ι2 (x1.trans x2) sr2 er2⟩
    | _ => simp at hf
/-- for -/
def forF (t : T) (k : IK) (fs : AF) (b : SF) : SF := fun σ s => (fs σ s).bind fun r => (items k r.2 r.1).bind fun xs => forL (fun s' => guard r.2 s' r.1) t b xs σ r.2
theorem ss_for {t : T} {k : IK} (hp : PassesOwn (model X.prog X.w) X.A X.env X.xe) (hc : X.calm = true) (hi : PI X tg iter (rdI G fs k)) (hg : PG X tg (rdG G t)) (hb : Sss G X body s) (hs : ∀ x, foldedSetIterable iter X.env x = pure x) :
    Ss G X (.For tg iter body [] pos) (forF t k fs s) :=
  PS.mono (ps_for hp hc hi hg hb hs) fun D σ H ⟨ι, en, S, r, er, sr, hf, c⟩ => by
    obtain ⟨⟨ds, S1⟩, h1, hf⟩ := bind_some hf
    obtain ⟨xs, h2, hf⟩ := bind_some hf
    refine ⟨ι, en, S, ds, S1, xs, er, sr, h1, h2, fun J H1 ι1 x1 sr1 wk => ?_⟩
    obtain ⟨Gd, Y, w, hGd, hY⟩ := wk G ι1 H1 rfl sr1 fun _ _ q => q
    have tr : ∀ {ι5 : List Addr} {H5 : Hp}, Ext ι1 H1 ι5 H5 → Tr G ι1 H1 G ι5 H5 := fun z => ⟨rfl, fun _ _ q => z.get q, fun a u f ee => ⟨⟨z.out f.1 ee, f.2⟩, z.keep a u f.1 ee⟩⟩
    refine for_it w (fun i σ' H' => ∃ ι' e' Si, Ext ι1 H1 ι' H' ∧ SR G ι' Si H' ∧ EnvR G ι' H' e' σ' ∧ Gds S1 Si ds ∧ forL (fun s' => guard S1 s' ds) t s (xs.drop i) e' Si = some r)
      ⟨ι1, en, S1, Ext.refl, sr1, er.ext x1, .inl rfl, by simpa using hf⟩ ?_ ?_ ?_
    · rintro i σ' H' _ ⟨ι', e', Si, x2, sr2, _, g, _⟩
      exact hGd ι' Si H' (tr x2) sr2 g
    · rintro i x σ' H' H'' hi ⟨ι', e', Si, x2, sr2, er2, g, hc⟩ hy
      have hx : xs[i]? = some xs[i] := List.getElem?_eq_getElem hi
      obtain ⟨x3, sr3, r3⟩ := hY i H' x H'' ι' Si xs[i] hx (tr x2) sr2 g hy
      rw [List.drop_eq_getElem_cons hi] at hc
      obtain ⟨e1, h3, hc⟩ := bind_some hc
      obtain ⟨⟨fl, e2, S2⟩, h4, hc⟩ := bind_some hc
      refine ⟨ι', e', xs[i], e1, er2.ext x3, r3, h3, fun σ2 er3 _ => ⟨ι', e1, Si, (fl, e2, S2), er3, sr3, h4, fun σ3 H3 ι3 x4 sr4 er4 => ?_⟩⟩
      have x5 := x2.trans (x3.trans x4)
      cases fl with
      | nx =>
        simp only at hc ⊢
        split at hc
        · rename_i hg'
          exact ⟨ι3, e2, S2, x5, sr4, er4, .inr hg', hc⟩
        · cases hc
      | ct =>
        simp only at hc ⊢
        split at hc
        · rename_i hg'
          exact ⟨ι3, e2, S2, x5, sr4, er4, .inr hg', hc⟩
        · cases hc
      | bk =>
        simp only [Option.some.injEq] at hc ⊢
        subst hc
        exact c σ3 H3 ι3 (x1.trans x5) sr4 er4
      | rt d =>
        simp only [Option.some.injEq] at hc ⊢
        subst hc
        exact c σ3 H3 ι3 (x1.trans x5) sr4 er4
    · rintro σ' H' ⟨ι', e', Si, x2, sr2, er2, g, hc⟩
      rw [List.drop_length] at hc
      simp only [forL, Option.some.injEq] at hc
      subst hc
      exact c σ' H' ι' (x1.trans x2) sr2 er2
/-- while -/
theorem ss_while {n : Nat} (hp : PassesOwn (model X.prog X.w) X.A X.env X.xe) (hc : Sdt G X e fc) (hb : Sss G X body s) : Ss G X (.While e body [] pos) (fun σ S => whileL fc s n σ S) :=
  PS.mono (ps_while hp hc hb) fun D σ H ⟨ι, en, S, r, er, sr, hf, c⟩ => by
    refine ⟨fun m σ' H' => ∃ ι' e' S', Ext ι H ι' H' ∧ SR G ι' S' H' ∧ EnvR G ι' H' e' σ' ∧ whileL fc s m e' S' = some r, ⟨n, ι, en, S, Ext.refl, sr, er, hf⟩, ?_⟩
    rintro m σ' H' ⟨ι', e', S', x1, sr1, er1, h⟩
    cases m with
    | zero => simp [whileL] at h
    | succ m =>
      obtain ⟨⟨d, S1⟩, e1, h⟩ := bind_some h
      cases d with
      | bl k =>
        refine ⟨ι', e', S', k, S1, er1, sr1, e1, fun H1 ι1 x2 sr2 => ?_⟩
        cases k with
        | false =>
          simp only [Option.some.injEq] at h
          subst h
          exact iteF (c σ' H1 ι1 (x1.trans x2) sr2 (er1.ext x2))
        | true =>
          simp only at h
          obtain ⟨⟨fl, e2, S2⟩, h2, h⟩ := bind_some h
          refine iteT ⟨fun σ' H' => ∃ ι' e' S', Ext ι H ι' H' ∧ SR G ι' S' H' ∧ EnvR G ι' H' e' σ' ∧ whileL fc s m e' S' = some r, fun σ3 H3 q => ⟨m, Nat.lt_succ_self _, q⟩, ι1, e', S1, (fl, e2, S2), er1.ext x2, sr2, h2, fun σ3 H3 ι3 x3 sr3 er3 => ?_⟩
          have x5 := (x1.trans x2).trans x3
          cases fl with
          | nx => exact ⟨ι3, e2, S2, x5, sr3, er3, h⟩
          | ct => exact ⟨ι3, e2, S2, x5, sr3, er3, h⟩
          | bk =>
            simp only [Option.some.injEq] at h ⊢
            subst h
            exact c σ3 H3 ι3 x5 sr3 er3
          | rt d =>
            simp only [Option.some.injEq] at h ⊢
            subst h
            exact c σ3 H3 ι3 x5 sr3 er3
      | _ => simp at h
end
end Fw
end
section
set_option Elab.async false
set_option linter.all false
set_option autoImplicit false
set_option maxRecDepth 100000
set_option maxHeartbeats 4000000
/-! Fw13: what is seen of a text, and the translation. -/
namespace Fw
open PySem PySem.Spec PyProof.Rows L2
def isStar : Expr → Bool
  | .Starred .. => true
  | _ => false
def isSlice : Expr → Bool
  | .Slice .. => true
  | _ => false
def isSetD : Expr → Bool
  | .Set .. => true
  | _ => false
def isTupE : Expr → Bool
  | .Tuple .. => true
  | _ => false
def isTgt : Expr → Bool
  | .Tuple .. => true
  | .List .. => true
  | _ => false
def isCompE : Expr → Bool
  | .ListComp .. => true
  | .SetComp .. => true
  | .DictComp .. => true
  | _ => false
def isNameE : Expr → Bool
  | .Name .. => true
  | _ => false
/-- a test of it is a test of its value -/
def isPlainV : Expr → Bool
  | .UnaryOp .Not _ _ => false
  | .BoolOp .. => false
  | .IfExp .. => false
  | .Compare .. => false
  | _ => true
def abOk : Expr → Bool
  | .Call (.Name _ _) [] [] _ => false
  | _ => true
section
variable {a o i e tg value : Expr} {es : List Expr} {env : Env} {pos p apos : Pos} {m x : Str} {l : Nat}
theorem star_cons (h : isStar a = false) : starEach (a :: es) env = (false, eval a env) :: starEach es env := by
  cases a <;> first | rfl | (simp [isStar] at h)
theorem star_none : ∀ {es : List Expr}, (es.all fun e => !isStar e) = true → (backTo pos (starEach es env)).any (·.1) = false
  | [], _ => rfl
  | a :: es, h => by
    rw [List.all_cons, Bool.and_eq_true] at h
    have ha : isStar a = false := by simpa using h.1
    rw [star_cons ha]
    show (false || (backTo pos (starEach es env)).any (·.1)) = false
    rw [star_none h.2]
    rfl
theorem star_all : ∀ {es : List Expr}, (es.all fun e => !isStar e) = true → (backTo pos (starEach es env)).all (fun x => !x.1) = true
  | [], _ => rfl
  | a :: es, h => by
    rw [List.all_cons, Bool.and_eq_true] at h
    have ha : isStar a = false := by simpa using h.1
    rw [star_cons ha]
    show (true && (backTo pos (starEach es env)).all (fun x => !x.1)) = true
    rw [star_all h.2]
    rfl
theorem ab_ok {w : Sem Value} (h : abOk o = true) : attributeBase o m env w = w := by
  unfold attributeBase
  split
  · simp [abOk] at h
  · rfl
theorem plainIx_ok (h : isSlice i = false) : PlainIx i := fun o j => by
  cases i <;> first | rfl | (simp [isSlice] at h)
theorem assign_sub (h : isSlice i = false) (v : Value) : assign (.Subscript o i pos) env v = (do
      let ov ← holding [v] (eval o env)
      let iv ← holding [v, ov] (eval i env)
      standAt pos
      holding [v, ov, iv] (setItem ov iv v)
      release [v, ov, iv] []) := by
  cases i <;> first | rfl | (simp [isSlice] at h)
theorem fold_ok {v : Value} (h : isSetD e = false) : foldedSetIterable e env v = pure v := by
  cases e <;> first | rfl | (simp [isSetD] at h)
theorem swaps_plain {t : Option Expr} (h : isCompE value = false) : swapsWith value t l env = pure false := by
  cases value <;> first | rfl | (simp [isCompE] at h)
theorem swaps_other (h : isNameE tg = false) : swapsWith value (some tg) l env = pure false := by
  cases value <;> first | rfl | (cases tg <;> first | rfl | (simp [isNameE] at h))
theorem sole_eq : swapsWithSole [tg] value l env = swapsWith value (some tg) l env := rfl
theorem stores_none (h : isTgt tg = false) : swappedStores [tg] value env = pure none := by
  cases tg <;> first | rfl | (simp [isTgt] at h)
theorem stores_val (h : isTupE value = false) : swappedStores [tg] value env = pure none := by
  cases value <;> first | (simp [isTupE] at h; done) | (cases tg <;> rfl)
theorem asg_each (h : isStar tg = false) : (assignEach [tg] env).map (·.2) = [assign tg env] := by
  cases tg <;> first | rfl | (simp [isStar] at h)
theorem mcall_ok (hb : abOk o = true) (hs : (es.all fun e => !isStar e) = true) (hn : es.length < 20) (hl : (apos.endLine == pos.line) = true) : eval (.Call (.Attribute o m apos) es [] pos) env = (do
      let ov ← eval o env
      standAt apos.atName
      let (f, first) ← holding [ov] (getMethod ov m (plainOf o env))
      callWith pos f first (backTo pos (starEach es env)) (backToKw pos (keywordEach [] env))) := by
  have hf : methodCallForm (es.length + ([] : List Keyword).length) (backTo pos (starEach es env)) (backToKw pos (keywordEach [] env)) = true := by
    unfold methodCallForm
    rw [star_all hs]
    simp [backToKw, keywordEach]
    omega
  show (do
    let ov ← attributeBase o m env (eval o env)
    standAt apos.atName
    methodCall o m apos pos env ov (es.length + ([] : List Keyword).length) (backTo pos (starEach es env)) (backToKw pos (keywordEach [] env))) = _
  rw [ab_ok hb]
  congr 1
  funext ov
  congr 1
  funext _
  exact mcall_line hf hl
theorem m1_ok {X : Cx} (hb : abOk o = true) (hs : isStar a = false) (hl : (apos.endLine == pos.line) = true) : M1 X o m apos a pos :=
  ⟨ab_ok hb, by rw [star_cons hs]; rfl, hl, by rw [star_cons hs]; rfl⟩
theorem m2_ok {X : Cx} {b : Expr} (hb : abOk o = true) (hs : isStar a = false) (hs2 : isStar b = false) (hl : (apos.endLine == pos.line) = true) : M2 X o m apos a b pos :=
  ⟨ab_ok hb, by rw [star_cons hs, star_cons hs2]; rfl, hl, by rw [star_cons hs, star_cons hs2]; rfl⟩
theorem msee_ok {X : Cx} (hb : abOk o = true) (hs : ((a :: es).all fun e => !isStar e) = true) (hn : (a :: es).length < 20) (hl : (apos.endLine == pos.line) = true) : MSee X o m apos a es pos := by
  have h2 := hs
  rw [List.all_cons, Bool.and_eq_true] at h2
  refine ⟨ab_ok hb, ?_, hl, star_cons (by simpa using h2.1), star_none h2.2⟩
  rw [star_all hs]
  simp [backToKw, keywordEach]
  simp at hn
  omega
theorem true_val (h : isPlainV e = true) (whole : Sem Value) : isTrue e env whole = (do let v ← whole; standAt e.pos; holding [v] (truthy v)) := by
  cases e <;> first | rfl | (simp [isPlainV] at h; done) | skip
  rename_i op _ _
  cases op <;> first | rfl | (simp [isPlainV] at h; done)
end

/-! ### the translation -/
/-- what is fixed of a program -/
structure Tab where
  fns : List (Str × Nat)
  cls : List (Str × Nat)
  flds : List Str
  meths : List Str
  blt : List Str
  cst : List (Str × D)
  dct : List (Str × List (D × D))
  cell : Pos → Bool
/-- where an expression stands -/
structure Sc where
  sc : Scope
  fnb : Str → Bool
def Sc.kind (s : Sc) (x : Str) : Option NameKind := s.sc.names.lookup x
def Sc.vis (s : Sc) (x : Str) : Bool := match s.kind x with
  | some .local => true
  | some .cell => true
  | some .free => true
  | _ => false
def Sc.loc (s : Sc) (x : Str) : Bool := match s.kind x with
  | some .local => true
  | some .cell => s.fnb x
  | _ => false
def Sc.glob (s : Sc) (x : Str) : Bool := match s.kind x with
  | some .globalImplicit => true
  | _ => false
def ixOf (N : List Str) (x : Str) : Option Nat := (N.findIdx? fun y => decide (y = x))
theorem ixOf_ok {N : List Str} {x : Str} {i : Nat} (h : ixOf N x = some i) : N[i]? = some x := by
  obtain ⟨hlt, e, _⟩ := List.findIdx?_eq_some_iff_getElem.mp h
  rw [List.getElem?_eq_getElem hlt, of_decide_eq_true e]
def strB (z : Str) : Bool := PyData.strOk z && decide (z.length ≤ 1000)
def cstD : Const → Option D
  | .none => some .non
  | .bool b => some (.bl b)
  | .int i => some (.int i)
  | .str z => if strB z then some (.str z) else none
  | _ => none
def opB : Operator → Option B2
  | .Add => some .add
  | .Sub => some .sub
  | .Mult => some .mul
  | .FloorDiv => some .fdiv
  | .Mod => some .mod
  | .Pow => some .pow
  | .LShift => some .shl
  | .RShift => some .shr
  | .BitAnd => some .band
  | .BitOr => some .bor
  | _ => none
def cmB : CmpOp → Option B2
  | .Eq => some .eq
  | .NotEq => some .ne
  | .Lt => some .lt
  | .LtE => some .le
  | .Gt => some .gt
  | .GtE => some .ge
  | .In => some .inn
  | .NotIn => some .notin
  | _ => none
def unB : UnaryOp → Option U1
  | .Not => some .not
  | .USub => some .neg
  | .Invert => some .inv
  | _ => none
def eStar : E → Bool
  | .star _ => true
  | _ => false
def primTab : List (Str × Nat × Prim) := [("len", 1, .len), ("int", 1, .int), ("abs", 1, .abs), ("all", 1, .all), ("any", 1, .any), ("sum", 1, .sum), ("max", 1, .max1), ("max", 2, .max2), ("sorted", 1, .sorted), ("tuple", 1, .tuple), ("list", 1, .list), ("str", 1, .str)]
def primOf (x : Str) (n : Nat) : Option Prim := (primTab.find? fun t => decide (t.1 = x) && decide (t.2.1 = n)).map (·.2.2)
def isConstNone : Expr → Bool
  | .Constant .none _ _ => true
  | _ => false
section
variable (T : Tab) (N : List Str) (rE : Sc → Expr → Option E) (rL : Sc → List Expr → Option (List E))
def trName (s : Sc) (x : Str) : Option E :=
  if x = "__debug__" then none else if x = "__classdict__" then none else
  if s.vis x then (ixOf N x).map .var else if s.glob x then (T.cst.lookup x).map .cst else none
def trCmp (s : Sc) (a : Expr) : List CmpOp → List Expr → Option E
  | [.Is], [b] => if isConstNone b then (rE s a).map (.u1 .isN) else none
  | [.IsNot], [b] => if isConstNone b then (rE s a).map (.u1 .notN) else none
  | [o], [b] => if behindInMarks o b then none else (cmB o).bind fun op => (rE s a).bind fun A => (rE s b).map fun B => .b2 op A B
  | [o, o'], [b, c] => if behindInMarks o' c then none else (cmB o).bind fun p => (cmB o').bind fun q => (rE s a).bind fun A => (rE s b).bind fun B => (rE s c).map fun C => .chain p q A B C
  | _, _ => none
def trOpt (s : Sc) : Option Expr → Option (Option E)
  | none => some none
  | some e => (rE s e).map some
def tgIx (s : Sc) : Expr → Option Nat
  | .Name x _ => if s.loc x then ixOf N x else none
  | _ => none
def tgIxs (s : Sc) : List Expr → Option (List Nat)
  | [] => some []
  | e :: es => (tgIx N s e).bind fun i => (tgIxs s es).map fun r => i :: r
def trTgt (s : Sc) : Expr → Option Fw.T
  | .Name x _ => if s.loc x then (ixOf N x).map .name else none
  | .Tuple es _ _ => (tgIxs N s es).map .tup
  | _ => none
def nStar (args : List Expr) : Bool := args.all fun e => !isStar e
def trGen (s : Sc) (x : Str) (args : List Expr) : Option E := if T.blt.contains x then (primOf x args.length).bind fun p => (rL s args).map (.prim p) else none
def isRange1 (T : Tab) (s : Sc) : Expr → Option Expr
  | .Call (.Name r _) [a] [] _ => if r = "range" && s.glob r && T.blt.contains r && !isStar a then some a else none
  | _ => none
def trCallN (s : Sc) (x : Str) (args : List Expr) : Option E :=
  if s.glob x && nStar args && !decide (x = "__debug__") then
    match T.fns.lookup x with
    | some i => (rL s args).map (.call i)
    | none => match T.cls.lookup x with
      | some c => if args.isEmpty then none else (rL s args).map (.new c)
      | none => match args with
        | [a] => (match isRange1 T s a with
          | some b => if x = "list" && T.blt.contains x then (rE s b).bind fun B => if eStar B then none else some (.prim .listRange [.cst (.int 0), B]) else none
          | none => trGen T rL s x [a])
        | _ => trGen T rL s x args
  else none
def dctOf (s : Sc) : Expr → Option (List (D × D))
  | .Name x _ => if s.glob x && !decide (x = "__debug__") then T.dct.lookup x else none
  | _ => none
def pmTab : List (Str × Nat × PM) := [("append", 1, .append), ("extend", 1, .extend), ("index", 1, .index), ("pop", 1, .pop1), ("get", 1, .get1), ("get", 2, .get2)]
def pmOf (m : Str) (n : Nat) : Option PM := (pmTab.find? fun t => decide (t.1 = m) && decide (t.2.1 = n)).map (·.2.2)
def trCallA (s : Sc) (o : Expr) (m : Str) (apos : Pos) (args : List Expr) (pos : Pos) : Option E :=
  if (apos.endLine == pos.line) && abOk o && nStar args && decide (args.length < 20) then
    match dctOf T s o with
    | some kvs => if m = "get" then (match args with
        | [a, b] => (rE s a).bind fun A => (rE s b).map fun B => .cget kvs A B
        | _ => none) else none
    | none => if T.meths.contains m then (rE s o).bind fun O => (rL s args).map (.meth O m) else
      (pmOf m args.length).bind fun p => (rE s o).bind fun O => (rL s args).map (.pm p O)
  else none
def trCall (s : Sc) (f : Expr) (args : List Expr) (pos : Pos) : Option E := match f with
  | .Name x _ => trCallN T rE rL s x args
  | .Attribute o m apos => trCallA T rE rL s o m apos args pos
  | _ => none
def blkS (s : Sc) (scope : Scope) : Sc := ⟨relS scope s.sc, fun x => scope.names.lookup x == some .cell⟩
def ownOf (N : List Str) (scope : Scope) : List (Str × Nat) := scope.names.filterMap fun p => match p.2 with
  | .local => (ixOf N p.1).map fun i => (p.1, i)
  | .cell => (ixOf N p.1).map fun i => (p.1, i)
  | _ => none
def blkB (N : List Str) (s : Sc) (scope : Scope) (slots : List Nat) : Bool :=
  (scope.kind == .function) && (scope.names.all fun y => decide (scope.names.lookup y.1 = some y.2)) &&
  (scope.names.all fun y => !(y.2 == .free) || (s.kind y.1 == some .cell || s.kind y.1 == some .free)) &&
  ((ownOf N scope).all fun p => slots.contains p.2) && (slots.all fun i => ((ownOf N scope).map (·.2)).contains i)
def isIterF (x : Str) : Bool := x = "range" || x = "enumerate" || x = "zip" || x = "reversed" || x = "map" || x = "filter"
def trIter (s : Sc) (tg : Expr) : Expr → Option (IK × List E)
  | .Call (.Name x p) args [] pos => if isIterF x then
      (if s.glob x && T.blt.contains x && nStar args then (rL s args).bind fun es =>
        if x = "range" && args.length == 1 then some (.rng1, es) else if x = "range" && args.length == 2 then some (.rng2, es)
        else if x = "enumerate" && args.length == 1 && isTupE tg then some (.enum, es) else if x = "zip" && args.length == 2 && isTupE tg then some (.zip, es) else none
      else none)
    else (rE s (.Call (.Name x p) args [] pos)).bind fun e => if eStar e then none else some (.seq, [e])
  | it => (rE s it).bind fun e => if eStar e then none else some (.seq, [e])
def trIfs (s : Sc) : List Expr → Option (List E)
  | [] => some []
  | [c] => (rE s c).map fun c => [c]
  | _ => none
def trComp (s : Sc) (elt : Expr) (gens : List Comprehension) (scope : Scope) (pos : Pos) : Option E := match gens with
  | [⟨tg, iter, ifs, 0⟩] => (trTgt N (blkS s scope) tg).bind fun t => (trIter T rE rL s tg iter).bind fun ki => (trIfs rE (blkS s scope) ifs).bind fun cs => (rE (blkS s scope) elt).bind fun e =>
      if blkB N s scope t.slots && !isSetD iter then some (.comp (T.cell pos) e t ki.1 ki.2 cs) else none
  | [⟨tg, iter, [], 0⟩, ⟨tg1, iter1, [], 0⟩] => (trTgt N (blkS s scope) tg).bind fun t => (trIter T rE rL s tg iter).bind fun ki => (trTgt N (blkS s scope) tg1).bind fun t1 => (trIter T rE rL (blkS s scope) tg1 iter1).bind fun ki1 => (rE (blkS s scope) elt).bind fun e =>
      if blkB N s scope (t.slots ++ t1.slots) && !isSetD iter && !isSetD iter1 then some (.comp2 (T.cell pos) e t ki.1 ki.2 t1 ki1.1 ki1.2) else none
  | _ => none
def trDComp (s : Sc) (kx vx : Expr) (gens : List Comprehension) (scope : Scope) (pos : Pos) : Option E := match gens with
  | [⟨tg, iter, ifs, 0⟩] => (trTgt N (blkS s scope) tg).bind fun t => (trIter T rE rL s tg iter).bind fun ki => (trIfs rE (blkS s scope) ifs).bind fun cs => (rE (blkS s scope) kx).bind fun k => (rE (blkS s scope) vx).bind fun v =>
      if blkB N s scope t.slots && !isSetD iter then some (.dcomp (T.cell pos) k v t ki.1 ki.2 cs) else none
  | _ => none
def trBool (s : Sc) (op : BoolOp) : List Expr → Option E
  | [] => none
  | [a] => rE s a
  | a :: r => (rE s a).bind fun A => (trBool s op r).map fun R => match op with
    | .And => .and A R
    | .Or => .or A R
def trSub (s : Sc) (a : Expr) : Expr → Option E
  | .Slice lo hi st _ => (match st with
    | none => (rE s a).bind fun A => (trOpt rE s lo).bind fun L => (trOpt rE s hi).map fun H => .slc A L H
    | some _ => none)
  | i => (rE s a).bind fun A => (rE s i).map fun I => .idx A I
def trStep (s : Sc) : Expr → Option E
  | .Constant c _ _ => (cstD c).map .cst
  | .Name x _ => trName T N s x
  | .Tuple es _ _ => (rL s es).map .tup
  | .List es pos => (rL s es).map (.lst (T.cell pos))
  | .Dict ks vs pos => (match ks, vs with
    | [], [] => some (.dic (T.cell pos) [] [])
    | _, _ => none)
  | .BinOp a o b _ => (opB o).bind fun op => (rE s a).bind fun A => (rE s b).map fun B => .b2 op A B
  | .UnaryOp o a _ => (unB o).bind fun op => (rE s a).map (.u1 op)
  | .BoolOp op es _ => trBool rE s op es
  | .Compare a ops cs _ => trCmp rE s a ops cs
  | .IfExp t a b _ => (rE s t).bind fun T => (rE s a).bind fun A => (rE s b).map fun B => .ite T A B
  | .Subscript a i _ => trSub rE s a i
  | .Attribute a m _ => if T.flds.contains m && abOk a then (rE s a).map (.fld · m) else none
  | .Call f args kws pos => (match kws with
    | [] => trCall T rE rL s f args pos
    | _ => none)
  | .ListComp elt gens scope pos => trComp T N rE rL s elt gens scope pos
  | .DictComp k v gens scope pos => trDComp T N rE rL s k v gens scope pos
  | _ => none
def trLStep (s : Sc) : List Expr → Option (List E)
  | [] => some []
  | .Starred a _ :: es => (rE s a).bind fun A => (trLStep s es).map fun R => .star A :: R
  | a :: es => (rE s a).bind fun A => (trLStep s es).bind fun R => if eStar A then none else some (A :: R)
end
def trE (T : Tab) (N : List Str) : Nat → Sc → Expr → Option E
  | 0, _, _ => none
  | n + 1, s, e => trStep T N (trE T N n) (trLStep (trE T N n)) s e

/-! ### statements -/
def isDoc : Expr → Bool
  | .Constant (.str _) _ _ => true
  | _ => false
def swNames (s : Sc) (ts : List Expr) : List Str :=
  let line := (ts.head?.map (·.pos.line)).getD 0
  ts.filterMap fun (e : Expr) => match e with
    | .Name id pos => if s.kind id == some .local && pos.line == line then some id else none
    | _ => none
def swNone (s : Sc) (ts vs : List Expr) : Bool :=
  (!(ts.length == 2 || ts.length == 3) || vs.length != ts.length) || (vs.any isStar) || ((swNames s ts).length != ts.length || (swNames s ts).eraseDups.length != (swNames s ts).length) || vs.all (foldedForSure 8)
/-- name = a comprehension on one line -/
def swB (s : Sc) (scope : Scope) (x : Str) (px cpos : Pos) : Bool := s.kind x == some .local && px.line == cpos.line && !(scope.names.any fun (n, k) => n == x && (k == .local || k == .cell))
def nameIx (s : Sc) (N : List Str) : Expr → Option Nat
  | .Name x _ => if s.kind x == some .local then ixOf N x else none
  | _ => none
def nameIxs (s : Sc) (N : List Str) : List Expr → Option (List Nat)
  | [] => some []
  | e :: es => (nameIx s N e).bind fun i => (nameIxs s N es).map fun r => i :: r
section
variable (T : Tab) (N : List Str) (rE : Sc → Expr → Option E) (rL : Sc → List Expr → Option (List E)) (rS : Sc → List Stmt → Option (List Stm))
def asgOk (s : Sc) (tg value : Expr) : Bool := match tg, value with
  | .Name x px, .DictComp _ _ _ scope cpos => !swB s scope x px cpos
  | .Name _ _, .SetComp .. => false
  | _, _ => true
def trAsg (s : Sc) (tg value : Expr) : Option Stm := match tg with
  | .Name x px => if s.loc x && asgOk s (.Name x px) value then (ixOf N x).bind fun i => (rE s value).map (.asg (.name i)) else none
  | .Tuple ts k p => (match value with
    | .Tuple vs _ _ => if swNone s ts vs then (trTgt N s (.Tuple ts k p)).bind fun t => (rE s value).map (.asg t)
      else if vs.all (constantsAlone 8) then none else
        if nStar vs && (ts.length == 2 || ts.length == 3) && vs.length == ts.length then (nameIxs s N ts).bind fun is => if decide is.Nodup then (rL s vs).map (.par is) else none else none
    | _ => (trTgt N s (.Tuple ts k p)).bind fun t => (rE s value).map (.asg t))
  | .Subscript o i _ => if isSlice i then none else (rE s value).bind fun V => (rE s o).bind fun O => (rE s i).map fun I => .setI O I V
  | .Attribute o m _ => if T.flds.contains m then (rE s value).bind fun V => (rE s o).map fun O => .setF O m V else none
  | _ => none
def trSStep (s : Sc) : Stmt → Option Stm
  | .Expr e _ => if isDoc e then some .pass else if isCompE e then none else (rE s e).map .expr
  | .Return v _ => (match v with
    | none => some .retN
    | some e => (rE s e).map .ret)
  | .Assign tgs v _ => (match tgs with
    | [tg] => trAsg T N rE rL s tg v
    | _ => none)
  | .AugAssign tg op e _ => (match tg, op with
    | .Name x _, .Add => if s.loc x then (ixOf N x).bind fun i => (rE s e).map (.aug i .add) else none
    | _, _ => none)
  | .If c a b _ => (rE s c).bind fun C => (rS s a).bind fun A => (rS s b).map fun B => .ife C A B
  | .For tg it body orelse _ => (match orelse with
    | [] => if isSetD it then none else (trTgt N s tg).bind fun t => (trIter T rE rL s tg it).bind fun ki => (rS s body).map fun B => .for_ t ki.1 ki.2 B
    | _ => none)
  | .While c body orelse _ => (match orelse with
    | [] => (rE s c).bind fun C => (rS s body).map fun B => .while_ C B
    | _ => none)
  | .Break _ => some .brk
  | .Continue _ => some .cont
  | .Pass _ => some .pass
  | .Raise _ _ _ => some .never
  | _ => none
end
def trSs (T : Tab) (N : List Str) (nE : Nat) : Nat → Sc → List Stmt → Option (List Stm)
  | 0, _, _ => none
  | _ + 1, _, [] => some []
  | n + 1, s, st :: r => (trSStep T N (trE T N nE) (trLStep (trE T N nE)) (trSs T N nE n) s st).bind fun A => (trSs T N nE n s r).map fun R => A :: R
end Fw
end
section
set_option Elab.async false
set_option linter.all false
set_option autoImplicit false
set_option maxRecDepth 100000
set_option maxHeartbeats 4000000
/-! Fw14: the translation says what the text does: expressions. -/
namespace Fw
open PySem PySem.Spec PyProof.Rows L2
/-- what is fixed of a proof -/
structure Fix where
  T : Tab
  N : List Str
  B : Cn
  k : Nat
  C : Cal
  nf : Nat → Nat
/-- a constant -/
def CstAt (X : Cx) (B : Cn) (x : Str) (d : D) : Prop := ∃ u v, X.mg x = some u ∧ RelV v u ∧ ∀ (G : Cn) ι H, G.K = B.K → Rep G ι H d v
structure OkX (F : Fix) (s : Sc) (X : Cx) : Prop where
  n : X.N = F.N
  nd : F.N.Nodup
  K : X.K = F.B.K
  sc : X.env.scope = s.sc
  kind : s.sc.kind = .function
  calm : X.calm = true
  room : Room (F.k + 1) X.A
  xe : X.xe = fun _ _ => False
  fnb : ∀ x, s.fnb x = true → X.fn x = true
  fns : ∀ x i, F.T.fns.lookup x = some i → ∃ f, X.mg x = some (.ref f) ∧ PySem.W.keepIn X.K (.ref f) = true ∧ Fnd X F.B F.k f (F.nf i) (F.C.fn i)
  cls : ∀ x c, F.T.cls.lookup x = some c → c < F.B.nc ∧ X.mg x = some (.ref (F.B.ca c)) ∧ ∃ f i, F.C.init c = some i ∧ Mk X.K (F.B.ca c) f ∧ Fnd X F.B F.k f (F.nf i) (F.C.fn i)
  mths : ∀ m, F.T.meths.contains m = true → Mths X F.B F.k m F.C F.nf
  flds : ∀ m, F.T.flds.contains m = true → ∀ c, c < F.B.nc → Cls X.K (F.B.ca c) ∧ NoAttr X.K (F.B.ca c) m
  cst : ∀ x d, F.T.cst.lookup x = some d → CstAt X F.B x d
  dct : ∀ x kvs, F.T.dct.lookup x = some kvs → ∃ d, X.mg x = some (.ref d) ∧ KSays X.K X.w d kvs
  blt : ∀ x, F.T.blt.contains x = true → X.mg x = none
  nfok : ∀ f ds S r, F.C.fn f ds S = some r → ds.length = F.nf f
structure GOk (F : Fix) (G : Cn) : Prop where
  k : G.K = F.B.K
  ca : G.ca = F.B.ca
  nc : G.nc = F.B.nc
theorem GOk.hide {F : Fix} {G : Cn} (g : GOk F G) (D : Addr) : GOk F (G.hide D) := ⟨g.k, g.ca, g.nc⟩
section
variable {F : Fix} {s : Sc} {X : Cx} {G : Cn} {x : Str} {i : Nat}
theorem OkX.lk (h : OkX F s X) (x : Str) : X.env.kindOf x = s.kind x := by
  unfold Env.kindOf Sc.kind
  rw [h.sc]
theorem OkX.gl (h : OkX F s X) (e : s.glob x = true) : Gl X x := by
  unfold Gl
  rw [h.lk]
  unfold Sc.glob at e
  split at e
  · assumption
  · cases e
theorem OkX.hK (h : OkX F s X) (g : GOk F G) : X.K = G.K := h.K.trans g.k.symm
theorem OkX.hu (h : OkX F s X) : X.A.units + 200 < cLine := by
  have := h.room.un
  omega
theorem OkX.vis (h : OkX F s X) (e : s.vis x = true) : Vis X.env.scope x := by
  unfold Vis
  rw [h.sc]
  unfold Sc.vis Sc.kind at e
  split at e
  · rename_i q; exact .inl q
  · rename_i q; exact .inr (.inl q)
  · rename_i q; exact .inr (.inr q)
  · cases e
theorem OkX.locv (h : OkX F s X) (e : s.loc x = true) : L2.Loc X.env.scope x ∧ (X.fn x = true ∨ X.env.scope.names.lookup x = some .local) := by
  unfold L2.Loc
  rw [h.sc]
  unfold Sc.loc Sc.kind at e
  split at e
  · rename_i q; exact ⟨.inl q, .inr q⟩
  · rename_i q; exact ⟨.inr q, .inl (h.fnb x e)⟩
  · cases e
theorem OkX.at_ (h : OkX F s X) (e : ixOf F.N x = some i) : X.N[i]? = some x := by
  rw [h.n]
  exact ixOf_ok e
theorem OkX.ndx (h : OkX F s X) : X.N.Nodup := by rw [h.n]; exact h.nd

/-- an expression's translation is right -/
def RE (F : Fix) (r : Sc → Expr → Option E) : Prop := ∀ (s : Sc) (X : Cx) (G : Cn) (e : Expr) (E : E), OkX F s X → GOk F G → r s e = some E → Sd G X e (ev F.C E) ∧ Sdt G X e (ev F.C E)
def RL (F : Fix) (r : Sc → List Expr → Option (List E)) : Prop := ∀ (s : Sc) (X : Cx) (G : Cn) (es : List Expr) (Es : List E), OkX F s X → GOk F G → r s es = some Es → Sda G X es (evs F.C Es)
theorem PE.congr {e : Expr} {f g : EF} (h : Sd G X e f) (he : f = g) : Sd G X e g := he ▸ h
/-- a value that may be tested -/
theorem both {e : Expr} {f : EF} (h : Sd G X e f) (he : isPlainV e = true) : Sd G X e f ∧ Sdt G X e f := ⟨h, sdt_of h (true_val he)⟩

theorem cst_ok {c : Const} {d : D} {j : Nat} {pos : Pos} (h : cstD c = some d) : Sd G X (.Constant c j pos) (fun _ S => some (d, S)) := by
  unfold cstD at h
  split at h
  · cases h; exact sd_cst pe_non fun _ _ => .non
  · cases h; exact sd_cst pe_bl fun _ _ => .bl _
  · cases h; exact sd_cst pe_int fun _ _ => .int _
  · split at h
    · rename_i z hz
      cases h
      unfold strB at hz
      rw [Bool.and_eq_true, decide_eq_true_eq] at hz
      exact sd_cst pe_str fun _ _ => .str _ ⟨hz.1, Nat.le_trans hz.2 (by decide)⟩
    · cases h
  · cases h
theorem bop_ok {o : Operator} {op : B2} (hK : X.K = G.K) (h : opB o = some op) : OpR X (binaryOp o) (rB G op) := by
  unfold opB at h
  split at h <;> first | (cases h; done) | cases h
  · exact op_add_ok hK
  · exact op_sub_ok
  · exact op_mul_ok hK
  · exact op_fdiv_ok
  · exact op_mod_ok
  · exact op_pow_ok
  · exact op_shl_ok
  · exact op_shr_ok
  · exact op_and_ok
  · exact op_or_ok
theorem cop_ok {o : CmpOp} {op : B2} (hK : X.K = G.K) (hu : X.A.units + 70 < cLine) (h : cmB o = some op) : OpR X (compareOp o) (rB G op) := by
  unfold cmB at h
  split at h <;> first | (cases h; done) | cases h
  · exact op_eq_ok hK hu
  · exact op_ne_ok hK hu
  · exact op_lt_ok hK hu
  · exact op_le_ok
  · exact op_gt_ok
  · exact op_ge_ok
  · exact op_in_ok hK hu
  · exact op_notin_ok hK hu
theorem name_ok {p : Pos} {E : E} (ok : OkX F s X) (g : GOk F G) (h : trName F.T F.N s x = some E) : Sd G X (.Name x p) (ev F.C E) := by
  unfold trName at h
  split at h
  · cases h
  rename_i h1
  split at h
  · cases h
  rename_i h2
  have d1 : (x == ("__debug__" : Str)) = false := by simpa using h1
  have d2 : (x == ("__classdict__" : Str)) = false := by simpa using h2
  split at h
  · rename_i hv
    obtain ⟨i, hi, rfl⟩ := map_some' h
    exact sd_var (pe_var (ok.at_ hi) (ok.vis hv) d1 d2)
  · split at h
    · rename_i hg
      obtain ⟨d, hd, rfl⟩ := map_some' h
      obtain ⟨u, v, hm, rv, hr⟩ := ok.cst x d hd
      exact sd_cst (pe_glob (ok.gl hg) hm rv d1) fun ι H => hr G ι H g.k
    · cases h
variable {rE : Sc → Expr → Option E} {rL : Sc → List Expr → Option (List E)}
theorem isNone_shape {b : Expr} (h : isConstNone b = true) : ∃ j p, b = .Constant .none j p := by
  unfold isConstNone at h
  split at h
  · exact ⟨_, _, rfl⟩
  · cases h
theorem cmp_ok (hE : RE F rE) (ok : OkX F s X) (g : GOk F G) {a : Expr} {ops : List CmpOp} {cs : List Expr} {pos : Pos} {E : E} (h : trCmp rE s a ops cs = some E) : Sd G X (.Compare a ops cs pos) (ev F.C E) ∧ Sdt G X (.Compare a ops cs pos) (ev F.C E) := by
  have hK := ok.hK g
  have hu : X.A.units + 70 < cLine := by have := ok.hu; omega
  unfold trCmp at h
  split at h
  · split at h
    · rename_i hn
      obtain ⟨j, p, rfl⟩ := isNone_shape hn
      obtain ⟨A, hA, rfl⟩ := map_some' h
      exact sd_isN (hE s X G a A ok g hA).1
    · cases h
  · split at h
    · rename_i hn
      obtain ⟨j, p, rfl⟩ := isNone_shape hn
      obtain ⟨A, hA, rfl⟩ := map_some' h
      exact sd_notN (hE s X G a A ok g hA).1
    · cases h
  · split at h
    · cases h
    rename_i hm
    obtain ⟨op, ho, h⟩ := bind_some h
    obtain ⟨A, hA, h⟩ := bind_some h
    obtain ⟨B, hB, rfl⟩ := map_some' h
    exact sd_cmp (cop_ok hK hu ho) (hE s X G _ A ok g hA).1 (hE s X G _ B ok g hB).1 (by simpa using hm)
  · split at h
    · cases h
    rename_i hm
    obtain ⟨p, hp, h⟩ := bind_some h
    obtain ⟨q, hq, h⟩ := bind_some h
    obtain ⟨A, hA, h⟩ := bind_some h
    obtain ⟨B, hB, h⟩ := bind_some h
    obtain ⟨C, hC, rfl⟩ := map_some' h
    exact sd_chain (cop_ok hK hu hp) (cop_ok hK hu hq) (hE s X G _ A ok g hA).1 (hE s X G _ B ok g hB).1 (hE s X G _ C ok g hC).1 (by simpa using hm)
  · cases h
theorem bool_ok (hE : RE F rE) (ok : OkX F s X) (g : GOk F G) {op : BoolOp} {pos : Pos} : ∀ {es : List Expr} {E : E}, trBool rE s op es = some E → Sd G X (.BoolOp op es pos) (ev F.C E) ∧ Sdw G X (.BoolOp op es pos) (ev F.C E)
  | [], E, h => by simp [trBool] at h
  | [a], E, h => by
    obtain ⟨h1, h2⟩ := hE s X G a E ok g h
    refine ⟨pe_one h1, ?_⟩
    cases op
    · exact pw_and1 h2
    · exact pw_or1 h2
  | a :: b :: r, E, h => by
    simp only [trBool] at h
    obtain ⟨A, hA, h⟩ := bind_some h
    obtain ⟨R, hR, rfl⟩ := map_some' h
    obtain ⟨h1, h2⟩ := hE s X G a A ok g hA
    obtain ⟨h3, h4⟩ := bool_ok hE ok g (es := b :: r) (E := R) (by simpa [trBool] using hR)
    cases op
    · exact ⟨sd_and h1 h3, sdw_and h2 h4⟩
    · exact ⟨sd_or h1 h3, sdw_or h2 h4⟩
theorem opt_ok (hE : RE F rE) (ok : OkX F s X) (g : GOk F G) {e : Option Expr} {E : Option E} (h : trOpt rE s e = some E) : PO X e (rdO G (evo F.C E)) := by
  cases e with
  | none =>
    simp only [trOpt, Option.some.injEq] at h
    subst h
    exact sdo_none
  | some e =>
    obtain ⟨A, hA, rfl⟩ := map_some' h
    exact sdo_some (hE s X G e A ok g hA).1
theorem sub_ok (hE : RE F rE) (ok : OkX F s X) (g : GOk F G) {a i : Expr} {pos : Pos} {E : E} (h : trSub rE s a i = some E) : Sd G X (.Subscript a i pos) (ev F.C E) := by
  have hK := ok.hK g
  have hu : X.A.units + 70 < cLine := by have := ok.hu; omega
  have gen : isSlice i = false → ((rE s a).bind fun A => (rE s i).map fun I => Fw.E.idx A I) = some E → Sd G X (.Subscript a i pos) (ev F.C E) := fun hi h => by
    obtain ⟨A, hA, h⟩ := bind_some h
    obtain ⟨I, hI, rfl⟩ := map_some' h
    exact sd_idx hK hu (hE s X G _ A ok g hA).1 (hE s X G _ I ok g hI).1 (plainIx_ok hi)
  unfold trSub at h
  split at h
  · split at h
    · obtain ⟨A, hA, h⟩ := bind_some h
      obtain ⟨L, hL, h⟩ := bind_some h
      obtain ⟨H, hH, rfl⟩ := map_some' h
      exact sd_slc hK (hE s X G _ A ok g hA).1 (opt_ok hE ok g hL) (opt_ok hE ok g hH)
    · cases h
  · rename_i hns
    refine gen ?_ h
    cases i <;> first | rfl | (exact absurd rfl (hns _ _ _ _))
theorem l_ok (hE : RE F rE) (ok : OkX F s X) (g : GOk F G) : ∀ {es : List Expr} {Es : List E}, trLStep rE s es = some Es → Sda G X es (evs F.C Es)
  | [], Es, h => by
    simp only [trLStep, Option.some.injEq] at h
    subst h
    exact sda_nil
  | a :: es, Es, h => by
    have gen : isStar a = false → ((rE s a).bind fun A => (trLStep rE s es).bind fun R => if eStar A then none else some (A :: R)) = some Es → Sda G X (a :: es) (evs F.C Es) := fun hs h => by
      obtain ⟨A, hA, h⟩ := bind_some h
      obtain ⟨R, hR, h⟩ := bind_some h
      split at h
      · cases h
      · rename_i hst
        simp only [Option.some.injEq] at h
        subst h
        have key := sda_cons (hE s X G _ A ok g hA).1 (l_ok hE ok g hR) (star_cons hs)
        have e : evs F.C (A :: R) = fun σ S => (ev F.C A σ S).bind fun r => (evs F.C R σ r.2).bind fun q => some (r.1 :: q.1, q.2) := by
          funext σ S
          cases A <;> first | rfl | (simp [eStar] at hst)
        rw [e]
        exact key
    cases a with
    | Starred a' p =>
      simp only [trLStep] at h
      obtain ⟨A, hA, h⟩ := bind_some h
      obtain ⟨R, hR, rfl⟩ := map_some' h
      exact sda_star (ok.hK g) (hE s X G _ A ok g hA).1 (l_ok hE ok g hR)
    | _ => exact gen rfl (by simpa only [trLStep] using h)
theorem prim_ok {p : Prim} {e : Expr} {es : List Expr} {Es : List E} {pp pos : Pos} (ok : OkX F s X) (g : GOk F G) (hg : s.glob x = true) (hb : F.T.blt.contains x = true) (hs : nStar (e :: es) = true) (hp : primOf x (e :: es).length = some p) (ha : Sda G X (e :: es) (evs F.C Es)) :
    Sd G X (.Call (.Name x pp) (e :: es) [] pos) (ev F.C (.prim p Es)) := by
  have hK := ok.hK g
  have hu := ok.hu
  have gl := ok.gl hg
  have hm := ok.blt x hb
  have h2 := hs
  unfold nStar at h2
  rw [List.all_cons, Bool.and_eq_true] at h2
  have he : starEach (e :: es) X.env = (false, eval e X.env) :: starEach es X.env := star_cons (by simpa using h2.1)
  have hpl : (backTo pos (starEach es X.env)).any (·.1) = false := star_none h2.2
  have fB : ∀ {id : String} {y : Str} {q : Prim}, CallR X (.builtin id) (rP G q) → bootBuiltins y = some (.builtin id) → Gl X y → X.mg y = none → y ≠ "__name__" → (y == ("__debug__" : Str)) = false → Sd G X (.Call (.Name y pp) (e :: es) [] pos) (ev F.C (.prim q Es)) := fun hc hv gl hm h1 h2 =>
    PE.mono (pe_callB hc gl hm hv ha h1 h2 he hpl) fun σ H Q h => prim_wish h
  have fT : ∀ {id : String} {y : Str} {q : Prim}, CallR X (.type id) (rP G q) → bootBuiltins y = some (.type id) → Gl X y → X.mg y = none → y ≠ "__name__" → (y == ("__debug__" : Str)) = false → Sd G X (.Call (.Name y pp) (e :: es) [] pos) (ev F.C (.prim q Es)) := fun hc hv gl hm h1 h2 =>
    PE.mono (pe_callTy hc gl hm hv ha h1 h2 he hpl) fun σ H Q h => prim_wish h
  obtain ⟨t, ht, rfl⟩ := map_some' hp
  have hm2 := List.mem_of_find?_eq_some ht
  have hx := List.find?_some ht
  rw [Bool.and_eq_true, decide_eq_true_eq] at hx
  obtain ⟨rfl, _⟩ := hx
  simp only [primTab, List.mem_cons, List.not_mem_nil, or_false] at hm2
  rcases hm2 with rfl | rfl | rfl | rfl | rfl | rfl | rfl | rfl | rfl | rfl | rfl | rfl
  · exact fB (len_ok hK) (by decide +kernel) gl hm (by decide) (by decide)
  · exact fT int_ok (by decide +kernel) gl hm (by decide) (by decide)
  · exact fB abs_ok (by decide +kernel) gl hm (by decide) (by decide)
  · exact fB (all_ok ok.calm) (by decide +kernel) gl hm (by decide) (by decide)
  · exact fB (any_ok ok.calm) (by decide +kernel) gl hm (by decide) (by decide)
  · exact fB (sum_ok ok.calm) (by decide +kernel) gl hm (by decide) (by decide)
  · exact fB (max1_ok ok.calm) (by decide +kernel) gl hm (by decide) (by decide)
  · exact fB (max2_ok ok.calm) (by decide +kernel) gl hm (by decide) (by decide)
  · exact fB (sorted_ok hK (by omega)) (by decide +kernel) gl hm (by decide) (by decide)
  · exact fT (tuple_ok hK) (by decide +kernel) gl hm (by decide) (by decide)
  · exact fT (list_ok hK) (by decide +kernel) gl hm (by decide) (by decide)
  · exact fT str_ok (by decide +kernel) gl hm (by decide) (by decide)
end
end Fw
end
section
set_option Elab.async false
set_option linter.all false
set_option autoImplicit false
set_option maxRecDepth 100000
set_option maxHeartbeats 4000000
/-! Fw15: the translation says what the text does: calls, comprehensions, statements. -/
namespace Fw
open PySem PySem.Spec PyProof.Rows L2
section
variable {F : Fix} {s : Sc} {X : Cx} {G : Cn} {x : Str} {i : Nat} {rE : Sc → Expr → Option E} {pos p pp : Pos}
theorem callF_eq {n : Nat} {fs : AF} {r : List D → Store → Option (D × Store)} (h : ∀ ds S q, r ds S = some q → ds.length = n) : callF n fs r = fun σ S => (fs σ S).bind fun q => r q.1 q.2 := by
  funext σ S
  unfold callF
  congr 1
  funext q
  split
  · rfl
  · rename_i hl
    cases hr : r q.1 q.2 with
    | none => rfl
    | some z => exact absurd (h _ _ _ hr) hl
theorem newF_eq {cl n f : Nat} {fs : AF} {C : Cal} (h : ∀ ds S q, C.fn f ds S = some q → ds.length = n) (hi : C.init cl = some f) : newF cl n fs (C.fn f) = fun σ S => (fs σ S).bind fun r => (C.init cl).bind fun f => (C.fn f (.ref r.2.length :: r.1) (r.2 ++ [.ins cl []])).bind fun q => match q.1 with
    | .non => some (.ref r.2.length, q.2)
    | _ => none := by
  funext σ S
  unfold newF
  congr 1
  funext q
  rw [hi, Option.bind_some]
  split
  · rfl
  · rename_i hl
    cases hr : C.fn f (.ref q.2.length :: q.1) (q.2 ++ [.ins cl []]) with
    | none => rfl
    | some z => exact absurd (by simpa using h _ _ _ hr) hl
theorem methF_eq {C : Cal} {nf : Nat → Nat} {m : Str} {fo : EF} {fs : AF} (h : ∀ f ds S q, C.fn f ds S = some q → ds.length = nf f) : methF C nf m fo fs = fun σ S => (fo σ S).bind fun r => (match r.1 with
    | .ref n => (match r.2[n]? with
      | some (.ins c fds) => if (lookF m fds).isSome then none else (C.meth c m).bind fun f => (fs σ r.2).bind fun q => (match q.2[n]? with
        | some (.ins c' _) => if c' = c then C.fn f (.ref n :: q.1) q.2 else none
        | _ => none)
      | _ => none)
    | _ => none) := by
  have key : ∀ f (n : Nat) (ds : List D) S, (if ds.length + 1 = nf f then C.fn f (.ref n :: ds) S else none) = C.fn f (.ref n :: ds) S := fun f n ds S => by
    split
    · rfl
    · rename_i hl
      cases hr : C.fn f (.ref n :: ds) S with
      | none => rfl
      | some z => exact absurd (by simpa using h _ _ _ _ hr) hl
  funext σ S
  unfold methF
  simp only [key] <;> rfl
theorem evs_one {C : Cal} {A : E} (h : eStar A = false) (σ : Ev) (S : Store) : evs C [A] σ S = (ev C A σ S).bind fun r => some ([r.1], r.2) := by
  cases A <;> first | rfl | (simp [eStar] at h)
theorem nStar_cons {e : Expr} {es : List Expr} (h : nStar (e :: es) = true) : isStar e = false ∧ nStar es = true := by
  unfold nStar at h ⊢
  rw [List.all_cons, Bool.and_eq_true] at h
  exact ⟨by simpa using h.1, h.2⟩
theorem gen_ok {args : List Expr} {E : E} (hE : RE F rE) (ok : OkX F s X) (g : GOk F G) (hg : s.glob x = true) (hs : nStar args = true) (h : trGen F.T (trLStep rE) s x args = some E) : Sd G X (.Call (.Name x pp) args [] pos) (ev F.C E) := by
  unfold trGen at h
  split at h
  · rename_i hb
    obtain ⟨p, hp, h⟩ := bind_some h
    obtain ⟨Es, hEs, rfl⟩ := map_some' h
    cases args with
    | nil =>
      exfalso
      obtain ⟨t, ht, _⟩ := map_some' hp
      have hm2 := List.mem_of_find?_eq_some ht
      have hx := List.find?_some ht
      rw [Bool.and_eq_true, decide_eq_true_eq, decide_eq_true_eq] at hx
      simp only [primTab, List.mem_cons, List.not_mem_nil, or_false] at hm2
      rcases hm2 with rfl | rfl | rfl | rfl | rfl | rfl | rfl | rfl | rfl | rfl | rfl | rfl <;> simp at hx
    | cons e es => exact prim_ok ok g hg hb hs hp (l_ok hE ok g hEs)
  · cases h
theorem callN_ok {args : List Expr} {E : E} (hE : RE F rE) (ok : OkX F s X) (g : GOk F G) (h : trCallN F.T rE (trLStep rE) s x args = some E) : Sd G X (.Call (.Name x pp) args [] pos) (ev F.C E) := by
  have hr : Room F.k X.A := ok.room.mono (Nat.le_succ _)
  unfold trCallN at h
  split at h
  rotate_left
  · cases h
  rename_i hc
  rw [Bool.and_eq_true, Bool.and_eq_true] at hc
  obtain ⟨⟨hg, hs⟩, hd⟩ := hc
  have hd : (x == ("__debug__" : Str)) = false := by simpa using hd
  split at h
  · rename_i i hi
    obtain ⟨Es, hEs, rfl⟩ := map_some' h
    obtain ⟨f, hm, hk, fnd⟩ := ok.fns x i hi
    have e : ev F.C (.call i Es) = callF (F.nf i) (evs F.C Es) (F.C.fn i) := (callF_eq (ok.nfok i)).symm
    rw [e]
    cases args with
    | nil =>
      simp only [trLStep, Option.some.injEq] at hEs
      subst hEs
      exact sd_call0 g.k g.ca g.nc fnd hr (ok.gl hg) hm hk hd
    | cons a es =>
      exact sd_call g.k g.ca g.nc fnd hr (ok.gl hg) hm hk (l_ok hE ok g hEs) hd (star_cons (nStar_cons hs).1) (star_none (nStar_cons hs).2)
  · split at h
    · rename_i c hcl
      split at h
      · cases h
      · rename_i hne
        obtain ⟨Es, hEs, rfl⟩ := map_some' h
        obtain ⟨hlt, hm, f, i, hin, hmk, fnd⟩ := ok.cls x c hcl
        have e : ev F.C (.new c Es) = newF c (F.nf i) (evs F.C Es) (F.C.fn i) := (newF_eq (ok.nfok i) hin).symm
        rw [e]
        cases args with
        | nil => simp at hne
        | cons a es =>
          exact sd_new g.k g.ca g.nc (by rw [g.nc]; exact hlt) (by rw [g.ca]; exact hmk) fnd ok.room (ok.gl hg) (by rw [g.ca]; exact hm) (l_ok hE ok g hEs) hd (star_cons (nStar_cons hs).1) (star_none (nStar_cons hs).2)
    · split at h
      · rename_i a
        split at h
        · rename_i b hb
          split at h
          · rename_i hl
            rw [Bool.and_eq_true, decide_eq_true_eq] at hl
            obtain ⟨rfl, hl2⟩ := hl
            obtain ⟨B, hB, h⟩ := bind_some h
            split at h
            · cases h
            rename_i hnb
            simp only [Option.some.injEq] at h
            subst h
            unfold isRange1 at hb
            split at hb
            · rename_i r p2 a' p3
              split at hb
              · rename_i hq
                simp only [Option.some.injEq] at hb
                subst hb
                simp only [Bool.and_eq_true, decide_eq_true_eq, Bool.not_eq_true'] at hq
                obtain ⟨⟨⟨rfl, q1⟩, q2⟩, q3⟩ := hq
                have key := sd_listRg1 (G := G) (p := pp) (p2 := p2) (pos := p3) (cpos := pos) ok.calm (ok.gl q1) (ok.blt _ q2) (ok.gl hg) (ok.blt _ hl2) (hE s X G _ B ok g hB).1 (star_cons q3)
                refine PE.congr key ?_
                funext σ S
                have e5 : ev F.C (.prim .listRange [.cst (.int 0), B]) σ S = ((evs F.C [B] σ S).bind fun q => some (D.int 0 :: q.1, q.2)).bind fun r => (prim .listRange (r.1.map (deref r.2))).map (·, r.2) := rfl
                rw [e5, evs_one (by simpa using hnb)]
                cases ev F.C B σ S with
                | none => rfl
                | some r => rfl
              · cases hb
            · cases hb
          · cases h
        · exact gen_ok hE ok g hg hs h
      · exact gen_ok hE ok g hg hs h
theorem callA_ok {o : Expr} {m : Str} {apos : Pos} {args : List Expr} {E : E} (hE : RE F rE) (ok : OkX F s X) (g : GOk F G) (h : trCallA F.T rE (trLStep rE) s o m apos args pos = some E) : Sd G X (.Call (.Attribute o m apos) args [] pos) (ev F.C E) := by
  have hr : Room F.k X.A := ok.room.mono (Nat.le_succ _)
  have hK := ok.hK g
  have hu := ok.hu
  unfold trCallA at h
  split at h
  rotate_left
  · cases h
  rename_i hc
  simp only [Bool.and_eq_true, decide_eq_true_eq] at hc
  obtain ⟨⟨⟨hl, hb⟩, hs⟩, hn⟩ := hc
  split at h
  · rename_i kvs hd
    split at h
    · rename_i hm
      subst hm
      split at h
      · rename_i a b
        obtain ⟨A, hA, h⟩ := bind_some h
        obtain ⟨B, hB, rfl⟩ := map_some' h
        unfold dctOf at hd
        split at hd
        · rename_i y py
          split at hd
          · rename_i hq
            simp only [Bool.and_eq_true, Bool.not_eq_true', decide_eq_false_iff_not] at hq
            obtain ⟨d, hm, hk⟩ := ok.dct y kvs hd
            have s1 := (nStar_cons hs).1
            have s2 := (nStar_cons (nStar_cons hs).2).1
            exact sd_cget hK (ok.gl hq.1) hm (by simpa using hq.2) hk (hE s X G _ A ok g hA).1 (hE s X G _ B ok g hB).1 (m2_ok hb s1 s2 hl)
          · cases hd
        · cases hd
      · cases h
    · cases h
  · split at h
    · rename_i hm
      obtain ⟨O, hO, h⟩ := bind_some h
      obtain ⟨Es, hEs, rfl⟩ := map_some' h
      have e : ev F.C (.meth O m Es) = methF F.C F.nf m (ev F.C O) (evs F.C Es) := (methF_eq ok.nfok).symm
      rw [e]
      have ht := mcall_ok (env := X.env) (m := m) hb hs hn hl
      cases args with
      | nil =>
        simp only [trLStep, Option.some.injEq] at hEs
        subst hEs
        exact sd_meth0 g.k g.ca g.nc (ok.mths m hm) hr (hE s X G _ O ok g hO).1 ht
      | cons a es =>
        exact sd_meth g.k g.ca g.nc (ok.mths m hm) hr (hE s X G _ O ok g hO).1 (l_ok hE ok g hEs) (star_cons (nStar_cons hs).1) (star_none (nStar_cons hs).2) ht
    · obtain ⟨p, hp, h⟩ := bind_some h
      obtain ⟨O, hO, h⟩ := bind_some h
      obtain ⟨Es, hEs, rfl⟩ := map_some' h
      have e : ev F.C (.pm p O Es) = pmF p (ev F.C O) (evs F.C Es) := rfl
      rw [e]
      have ho := (hE s X G _ O ok g hO).1
      obtain ⟨t, ht, rfl⟩ := map_some' hp
      have hm2 := List.mem_of_find?_eq_some ht
      have hx := List.find?_some ht
      rw [Bool.and_eq_true, decide_eq_true_eq, decide_eq_true_eq] at hx
      obtain ⟨rfl, hlen⟩ := hx
      have one : ∀ {a : Expr} {Es : List Fw.E}, trLStep rE s [a] = some Es → isStar a = false → ∃ A, Sd G X a (ev F.C A) ∧ evs F.C Es = fun σ S => (ev F.C A σ S).bind fun r => some ([r.1], r.2) := fun {a Es} h hst => by
        have h' : ((rE s a).bind fun A => (some ([] : List Fw.E)).bind fun R => if eStar A then none else some (A :: R)) = some Es := by
          cases a <;> first | exact h | (simp [isStar] at hst)
        obtain ⟨A, hA, h'⟩ := bind_some h'
        simp only [Option.bind_some] at h'
        split at h'
        · cases h'
        · rename_i hna
          simp only [Option.some.injEq] at h'
          subst h'
          refine ⟨A, (hE s X G _ A ok g hA).1, ?_⟩
          funext σ S
          cases A <;> first | rfl | (simp [eStar] at hna)
      simp only [pmTab, List.mem_cons, List.not_mem_nil, or_false] at hm2
      rcases hm2 with rfl | rfl | rfl | rfl | rfl | rfl
      · match args, hlen, hs, hn, hEs with
        | [a], _, hs, hn, hEs => exact sd_append hK ho (l_ok hE ok g hEs) (msee_ok hb hs hn hl)
      · match args, hlen, hs, hn, hEs with
        | [a], _, hs, hn, hEs => exact sd_extend hK ho (l_ok hE ok g hEs) (msee_ok hb hs hn hl)
      · match args, hlen, hs, hn, hEs with
        | [a], _, hs, hn, hEs => exact sd_index hK (by omega) ho (l_ok hE ok g hEs) (msee_ok hb hs hn hl)
      · match args, hlen, hs, hn, hEs with
        | [a], _, hs, hn, hEs => exact sd_pop1 hK ho (l_ok hE ok g hEs) (msee_ok hb hs hn hl)
      · match args, hlen, hs, hn, hEs with
        | [a], _, hs, hn, hEs =>
          obtain ⟨A, hA, e2⟩ := one hEs (nStar_cons hs).1
          rw [e2]
          exact sd_get1 hK (by omega) ho hA (m1_ok hb (nStar_cons hs).1 hl)
      · match args, hlen, hs, hn, hEs with
        | [a, b], _, hs, hn, hEs =>
          have s1 := (nStar_cons hs).1
          have s2 := (nStar_cons (nStar_cons hs).2).1
          have h' : ((rE s a).bind fun A => (trLStep rE s [b]).bind fun R => if eStar A then none else some (A :: R)) = some Es := by
            cases a <;> first | exact hEs | (simp [isStar] at s1)
          obtain ⟨A, hA, h'⟩ := bind_some h'
          obtain ⟨R, hR, h'⟩ := bind_some h'
          split at h'
          · cases h'
          · rename_i hna
            simp only [Option.some.injEq] at h'
            subst h'
            obtain ⟨B, hB, e2⟩ := one hR s2
            have e3 : evs F.C (A :: R) = fun σ S => (ev F.C A σ S).bind fun r => (ev F.C B σ r.2).bind fun q => some ([r.1, q.1], q.2) := by
              funext σ S
              have e4 : evs F.C (A :: R) σ S = (ev F.C A σ S).bind fun r => (evs F.C R σ r.2).bind fun q => some (r.1 :: q.1, q.2) := by
                cases A <;> first | rfl | (simp [eStar] at hna)
              rw [e4, e2]
              congr 1
              funext r
              show ((ev F.C B σ r.2).bind fun r => some ([r.1], r.2)).bind _ = _
              cases ev F.C B σ r.2 <;> rfl
            rw [e3]
            exact sd_get2 hK (by omega) ho (hE s X G _ A ok g hA).1 hB (m2_ok hb s1 s2 hl)
end
end Fw
end
section
set_option Elab.async false
set_option linter.all false
set_option autoImplicit false
set_option maxRecDepth 100000
set_option maxHeartbeats 4000000
/-! Fw16: the translation says what the text does: comprehensions. -/
namespace Fw
open PySem PySem.Spec PyProof.Rows L2
section
variable {F : Fix} {s : Sc} {X : Cx} {G : Cn} {x : Str} {i : Nat} {rE : Sc → Expr → Option E} {pos p pp : Pos} {scope : Scope}
theorem tgIx_shape {e : Expr} {i : Nat} (h : tgIx F.N s e = some i) : ∃ x p, e = .Name x p ∧ s.loc x = true ∧ ixOf F.N x = some i := by
  unfold tgIx at h
  split at h
  · split at h
    · rename_i hl; exact ⟨_, _, rfl, hl, h⟩
    · cases h
  · cases h
theorem pgn_ok (ok : OkX F s X) {x : Str} {i : Nat} (hl : s.loc x = true) (hi : ixOf F.N x = some i) : PG X (.Name x p) (gName i) :=
  pg_name ok.ndx (ok.at_ hi) (ok.locv hl).1 (ok.locv hl).2
theorem tgs_ok (ok : OkX F s X) : ∀ {es : List Expr} {is : List Nat}, tgIxs F.N s es = some is → PGs X es (rdGs G is) ∧ (assignEach es X.env).length = is.length ∧ (assignEach es X.env).findIdx? (·.1) = none
  | [], is, h => by
    simp only [tgIxs, Option.some.injEq] at h
    subst h
    exact ⟨sgs_nil, rfl, rfl⟩
  | e :: es, is, h => by
    obtain ⟨i, hi, h⟩ := bind_some h
    obtain ⟨r, hr, rfl⟩ := map_some' h
    obtain ⟨x, p, rfl, hl, hx⟩ := tgIx_shape hi
    obtain ⟨h1, h2, h3⟩ := tgs_ok ok hr
    refine ⟨sgs_cons (pgn_ok ok hl hx) h1, ?_, ?_⟩
    · show (assignEach es X.env).length + 1 = _
      rw [h2]; rfl
    · show List.findIdx? (·.1) ((false, assign (.Name x p) X.env) :: assignEach es X.env) = none
      rw [List.findIdx?_cons]
      simp [h3]
theorem tgt_ok (ok : OkX F s X) (g : GOk F G) {tg : Expr} {t : Fw.T} (h : trTgt F.N s tg = some t) : PG X tg (rdG G t) := by
  unfold trTgt at h
  split at h
  · split at h
    · rename_i hl
      obtain ⟨i, hi, rfl⟩ := map_some' h
      exact sg_name (pgn_ok ok hl hi)
    · cases h
  · obtain ⟨is, hi, rfl⟩ := map_some' h
    obtain ⟨h1, h2, h3⟩ := tgs_ok (G := G) ok hi
    exact sg_tup (ok.hK g) ok.calm h1 h2 h3
  · cases h
theorem seq_ok (hE : RE F rE) (ok : OkX F s X) (g : GOk F G) {tg it : Expr} {k : IK} {es : List Fw.E} (h : ((rE s it).bind fun e => if eStar e then none else some (IK.seq, [e])) = some (k, es)) : PI X tg it (rdI G (evs F.C es) k) := by
  obtain ⟨A, hA, h⟩ := bind_some h
  split at h
  · cases h
  rename_i hn
  simp only [Option.some.injEq, Prod.mk.injEq] at h
  obtain ⟨rfl, rfl⟩ := h
  exact sdi_seq (ok.hK g) (hE s X G it A ok g hA).1 fun σ S => evs_one (by simpa using hn) σ S
theorem iter_ok (hE : RE F rE) (ok : OkX F s X) (g : GOk F G) {tg it : Expr} {k : IK} {es : List Fw.E} (h : trIter F.T rE (trLStep rE) s tg it = some (k, es)) : PI X tg it (rdI G (evs F.C es) k) := by
  unfold trIter at h
  split at h
  · rename_i x p args pos'
    split at h
    · split at h
      · rename_i hc
        simp only [Bool.and_eq_true] at hc
        obtain ⟨⟨hg, hb⟩, hs⟩ := hc
        obtain ⟨Es, hEs, h5⟩ := bind_some h
        clear h
        have ha := l_ok hE ok g hEs
        have gl := ok.gl hg
        have hm := ok.blt _ hb
        split at h5
        · rename_i hx
          simp only [Bool.and_eq_true, decide_eq_true_eq, beq_iff_eq] at hx
          obtain ⟨rfl, hlen⟩ := hx
          simp only [Option.some.injEq, Prod.mk.injEq] at h5
          obtain ⟨rfl, rfl⟩ := h5
          match args, hlen, hs, ha with
          | [a], _, hs, ha => exact sdi_rng1 gl hm ha (star_cons (nStar_cons hs).1)
        · split at h5
          · rename_i hx
            simp only [Bool.and_eq_true, decide_eq_true_eq, beq_iff_eq] at hx
            obtain ⟨rfl, hlen⟩ := hx
            simp only [Option.some.injEq, Prod.mk.injEq] at h5
            obtain ⟨rfl, rfl⟩ := h5
            match args, hlen, hs, ha with
            | [a, b], _, hs, ha => exact sdi_rng2 gl hm ha (by rw [star_cons (nStar_cons hs).1, star_cons (nStar_cons (nStar_cons hs).2).1]; rfl) (star_cons (nStar_cons (nStar_cons hs).2).1)
          · split at h5
            · rename_i hx
              simp only [Bool.and_eq_true, decide_eq_true_eq, beq_iff_eq] at hx
              obtain ⟨⟨rfl, hlen⟩, ht⟩ := hx
              simp only [Option.some.injEq, Prod.mk.injEq] at h5
              obtain ⟨rfl, rfl⟩ := h5
              cases tg <;> first | (simp [isTupE] at ht; done) | skip
              match args, hlen, hs, ha with
              | [a], _, hs, ha => exact sdi_enum (ok.hK g) gl hm ha (star_cons (nStar_cons hs).1)
            · split at h5
              · rename_i hx
                simp only [Bool.and_eq_true, decide_eq_true_eq, beq_iff_eq] at hx
                obtain ⟨⟨rfl, hlen⟩, ht⟩ := hx
                simp only [Option.some.injEq, Prod.mk.injEq] at h5
                obtain ⟨rfl, rfl⟩ := h5
                cases tg <;> first | (simp [isTupE] at ht; done) | skip
                match args, hlen, hs, ha with
                | [a, b], _, hs, ha => exact sdi_zip (ok.hK g) gl hm ha (star_cons (nStar_cons hs).1) (star_none (nStar_cons hs).2)
              · cases h5
      · cases h
    · exact seq_ok hE ok g h
  · exact seq_ok hE ok g h
theorem ifs_ok (hE : RE F rE) (ok : OkX F s X) (g : GOk F G) {ifs : List Expr} {cs : List Fw.E} (h : trIfs rE s ifs = some cs) : PTs X ifs (rdC G (evc F.C cs)) := by
  unfold trIfs at h
  split at h
  · cases h; exact sdc_nil
  · obtain ⟨c, hc, rfl⟩ := map_some' h
    exact sdc_one (hE s X G _ c ok g hc).2
  · cases h
/-! ### blocks -/
theorem ixOf_mem {N : List Str} {x : Str} (h : ixOf N x = none) : x ∉ N := fun m => by
  unfold ixOf at h
  rw [List.findIdx?_eq_none_iff] at h
  have := h x m
  simp at this
theorem own_at {p : Str × Nat} (h : p ∈ ownOf F.N scope) : F.N[p.2]? = some p.1 := by
  unfold ownOf at h
  obtain ⟨y, hy, e⟩ := List.mem_filterMap.mp h
  split at e
  · obtain ⟨i, hi, rfl⟩ := map_some' e; exact ixOf_ok hi
  · obtain ⟨i, hi, rfl⟩ := map_some' e; exact ixOf_ok hi
  · cases e
theorem blk_bok (ok : OkX F s X) {slots : List Nat} (h : blkB F.N s scope slots = true) : BlkOk X.N X.env.scope scope (ownOf F.N scope) ∧ (∀ i ∈ (ownOf F.N scope).map (·.2), i ∈ slots) ∧ (∀ i ∈ slots, i ∈ (ownOf F.N scope).map (·.2)) := by
  unfold blkB at h
  simp only [Bool.and_eq_true] at h
  obtain ⟨⟨⟨⟨h1, h2⟩, h3⟩, h4⟩, h5⟩ := h
  refine ⟨⟨by simpa using h1, fun y hy => ?_, fun p hp => ?_, fun y hy e => ?_, fun y hy e => ?_⟩, fun i hi => ?_, fun i hi => ?_⟩
  · have := List.all_eq_true.mp h2 y hy
    exact of_decide_eq_true this
  · rw [ok.n]; exact own_at hp
  · have := List.all_eq_true.mp h3 y hy
    rw [e] at this
    simp at this
    rw [ok.sc]
    exact this
  · rw [ok.n]
    cases hi : ixOf F.N y.1 with
    | none => exact .inr (ixOf_mem hi)
    | some i =>
      refine .inl (List.mem_map.mpr ⟨(y.1, i), ?_, rfl⟩)
      unfold ownOf
      refine List.mem_filterMap.mpr ⟨y, hy, ?_⟩
      rcases e with e | e <;> rw [e] <;> simp [hi]
  · obtain ⟨p, hp, rfl⟩ := List.mem_map.mp hi
    have := List.all_eq_true.mp h4 p hp
    simpa using this
  · have := List.all_eq_true.mp h5 i hi
    simpa using this
theorem Mths.blk {B : Cn} {k : Nat} {m : Str} {C : Cal} {nf : Nat → Nat} (h : Mths X B k m C nf) (Y : Cx) (e1 : Y.K = X.K) (e2 : Y.prog = X.prog) (e3 : Y.w = X.w) (e4 : Y.mg = X.mg) (e5 : Y.base = X.base) : Mths Y B k m C nf :=
  ⟨fun cl f e => by
    obtain ⟨fa, h1, h2, ⟨fd, ps, h3, h4, h5⟩⟩ := h.get cl f e
    exact ⟨fa, by rw [e1]; exact h1, by rw [e1]; exact h2, ⟨fd, ps, h3, by rw [e1, e2, e3, e4, e5]; exact h4, by rw [e1]; exact h5⟩⟩⟩
theorem OkX.blk (ok : OkX F s X) (hk : scope.kind = .function) (s0 : Shared) (H : Hp) (C : Addr) (cl : List (Str × Addr)) (fp : List Addr) : OkX F (blkS s scope) (X.blk s0 H scope (compEnvC scope cl C X.env) fp) := by
  refine ⟨ok.n, ok.nd, ok.K, ?_, hk, ok.calm, ok.room, rfl, fun x h => h, fun x i h => ?_, fun x c h => ?_, fun m h => (ok.mths m h).blk _ rfl rfl rfl rfl rfl, ok.flds, ok.cst, ok.dct, ok.blt, ok.nfok⟩
  · show relS scope X.env.scope = _
    rw [ok.sc]
    rfl
  · obtain ⟨f, h1, h2, h3⟩ := ok.fns x i h
    exact ⟨f, h1, h2, ⟨h3.ex⟩⟩
  · obtain ⟨h1, h2, f, i, h3, h4, h5⟩ := ok.cls x c h
    exact ⟨h1, h2, f, i, h3, h4, ⟨h5.ex⟩⟩
theorem fold_pl {e : Expr} {b : Bool} (h : (b && !isSetD e) = true) : isSetD e = false := by
  rw [Bool.and_eq_true] at h
  simpa using h.2
/-- the parts of a comprehension of one clause -/
structure Comp1 (F : Fix) (s : Sc) (X : Cx) (G : Cn) (tg iter : Expr) (ifs : List Expr) (scope : Scope) (t : Fw.T) (k : IK) (its cs : List Fw.E) : Prop where
  hi : PI X tg iter (rdI G (evs F.C its) k)
  ok : BlkOk X.N X.env.scope scope (ownOf F.N scope)
  hg : Blk X scope fun Y => ∀ D, PG Y tg (rdG (G.hide D) t)
  ht : Blk X scope fun Y => ∀ D, PTs Y ifs (rdC (G.hide D) (evc F.C cs))
  hs : ∀ x, foldedSetIterable iter X.env x = pure x
  hvs : ∀ i ∈ (ownOf F.N scope).map (·.2), i ∈ t.slots
  hsv : ∀ i ∈ t.slots, i ∈ (ownOf F.N scope).map (·.2)
theorem comp1_ok (hE : RE F rE) (ok : OkX F s X) (g : GOk F G) {tg iter : Expr} {ifs : List Expr} {t : Fw.T} {k : IK} {its cs : List Fw.E} (h1 : trTgt F.N (blkS s scope) tg = some t) (h2 : trIter F.T rE (trLStep rE) s tg iter = some (k, its)) (h3 : trIfs rE (blkS s scope) ifs = some cs)
    (h4 : blkB F.N s scope t.slots = true) (h5 : isSetD iter = false) : Comp1 F s X G tg iter ifs scope t k its cs := by
  obtain ⟨b1, b2, b3⟩ := blk_bok ok h4
  exact ⟨iter_ok hE ok g h2, b1, fun s0 H C cl fp D => tgt_ok (ok.blk b1.kind s0 H C cl fp) (g.hide D) h1, fun s0 H C cl fp D => ifs_ok hE (ok.blk b1.kind s0 H C cl fp) (g.hide D) h3, fun x => fold_ok h5, b2, b3⟩
theorem elt_ok (hE : RE F rE) (ok : OkX F s X) (g : GOk F G) (hk : scope.kind = .function) {elt : Expr} {E : Fw.E} (h : rE (blkS s scope) elt = some E) : Blk X scope fun Y => ∀ D, PE Y elt (rd (G.hide D) (ev F.C E)) :=
  fun s0 H C cl fp D => (hE _ _ _ elt E (ok.blk hk s0 H C cl fp) (g.hide D) h).1
theorem swap_true {elt : Expr} {gs : List Comprehension} {px : Pos} {l : Nat} (ok : OkX F s X) (h : swB s scope x px pos = true) : X.env.scope.names.lookup x = some .local ∧ swapsWith (.ListComp elt gs scope pos) (some (.Name x px)) l X.env = pure true := by
  unfold swB Sc.kind at h
  simp only [Bool.and_eq_true] at h
  obtain ⟨⟨h1, h2⟩, h3⟩ := h
  have h1 : X.env.scope.names.lookup x = some .local := by rw [ok.sc]; simpa using h1
  refine ⟨h1, sw_true (by rw [ok.sc]; exact ok.kind) h1 h2 (by simpa using h3)⟩
theorem swap_false {value : Expr} {px : Pos} {l : Nat} {r : Bool} (ok : OkX F s X) (hv : (∃ elt gs, value = .ListComp elt gs scope pos) ∨ ∃ k v gs, value = .DictComp k v gs scope pos) (h : swB s scope x px pos = false) : swapsWith value (some (.Name x px)) l X.env = pure false := by
  have hb : X.env.blockKind = .function := by unfold Env.blockKind; rw [ok.sc, ok.kind]; rfl
  have hk : X.env.kindOf x = s.kind x := ok.lk x
  unfold swB at h
  rcases hv with ⟨elt, gs, rfl⟩ | ⟨k, v, gs, rfl⟩
  · unfold swapsWith
    simp only [hb, hk, Expr.pos]
    have : (ScopeKind.function == ScopeKind.function) = true := rfl
    rw [this, Bool.true_and, h]
  · unfold swapsWith
    simp only [hb, hk, Expr.pos]
    have : (ScopeKind.function == ScopeKind.function) = true := rfl
    rw [this, Bool.true_and, h]
/-- a list comprehension, as a value and as a local's value -/
theorem lcomp_ok (hE : RE F rE) (ok : OkX F s X) (g : GOk F G) {elt : Expr} {gens : List Comprehension} {E : Fw.E} (h : trComp F.T F.N rE (trLStep rE) s elt gens scope pos = some E) :
    Sd G X (.ListComp elt gens scope pos) (ev F.C E) ∧ ∀ (x : Str) (px spos : Pos) (i : Nat), ixOf F.N x = some i → swB s scope x px pos = true →
      Ss G X (.Assign [.Name x px] (.ListComp elt gens scope pos) spos) (fun σ S => (ev F.C E σ S).bind fun r => (bindT (.name i) r.1 σ).bind fun σ' => some (.nx, σ', r.2)) := by
  unfold trComp at h
  split at h
  · rename_i tg iter ifs
    obtain ⟨t, h1, h⟩ := bind_some h
    obtain ⟨⟨k, its⟩, h2, h⟩ := bind_some h
    obtain ⟨cs, h3, h⟩ := bind_some h
    obtain ⟨e, h4, h⟩ := bind_some h
    split at h
    · rename_i hc
      rw [Bool.and_eq_true, Bool.not_eq_true'] at hc
      simp only [Option.some.injEq] at h
      subst h
      have c := comp1_ok hE ok g h1 h2 h3 hc.1 hc.2
      have he := elt_ok hE ok g c.ok.kind h4
      exact ⟨sd_comp ok.calm ok.ndx c.hi c.ok c.hg c.ht he c.hs c.hvs c.hsv, fun x px spos i hi hsw =>
        ss_setComp ok.calm ok.ndx (ok.at_ hi) (swap_true (elt := elt) (gs := [⟨tg, iter, ifs, 0⟩]) (l := spos.line) ok hsw).1 (swap_true ok hsw).2 c.hi c.ok c.hg c.ht he c.hs c.hvs c.hsv⟩
    · cases h
  · rename_i tg iter tg1 iter1
    obtain ⟨t, h1, h⟩ := bind_some h
    obtain ⟨⟨k, its⟩, h2, h⟩ := bind_some h
    obtain ⟨t1, h3, h⟩ := bind_some h
    obtain ⟨⟨k1, its1⟩, h4, h⟩ := bind_some h
    obtain ⟨e, h5, h⟩ := bind_some h
    split at h
    · rename_i hc
      simp only [Bool.and_eq_true, Bool.not_eq_true'] at hc
      obtain ⟨⟨c1, c2⟩, c3⟩ := hc
      simp only [Option.some.injEq] at h
      subst h
      obtain ⟨b1, b2, b3⟩ := blk_bok ok c1
      have he := elt_ok hE ok g b1.kind h5
      have hg : Blk X scope fun Y => ∀ D, PG Y tg (rdG (G.hide D) t) := fun s0 H C cl fp D => tgt_ok (ok.blk b1.kind s0 H C cl fp) (g.hide D) h1
      have hg1 : Blk X scope fun Y => ∀ D, PG Y tg1 (rdG (G.hide D) t1) := fun s0 H C cl fp D => tgt_ok (ok.blk b1.kind s0 H C cl fp) (g.hide D) h3
      have hi1 : Blk X scope fun Y => ∀ D, PI Y tg1 iter1 (rdI (G.hide D) (evs F.C its1) k1) := fun s0 H C cl fp D => iter_ok hE (ok.blk b1.kind s0 H C cl fp) (g.hide D) h4
      have v1 : ∀ i ∈ (ownOf F.N scope).map (·.2), i ∈ t.slots ∨ i ∈ t1.slots := fun i hi => List.mem_append.mp (b2 i hi)
      exact ⟨sd_comp2 ok.calm ok.ndx (iter_ok hE ok g h2) b1 hg hi1 hg1 he (fun x => fold_ok c2) (fun env x => fold_ok c3) v1 (fun i hi => b3 i (List.mem_append_left _ hi)) (fun i hi => b3 i (List.mem_append_right _ hi)), fun x px spos i hi hsw =>
        ss_setComp2 ok.calm ok.ndx (ok.at_ hi) (swap_true (elt := elt) (gs := [⟨tg, iter, [], 0⟩, ⟨tg1, iter1, [], 0⟩]) (l := spos.line) ok hsw).1 (swap_true ok hsw).2 (iter_ok hE ok g h2) b1 hg hi1 hg1 he (fun x => fold_ok c2) (fun env x => fold_ok c3) v1 (fun i hi => b3 i (List.mem_append_left _ hi)) (fun i hi => b3 i (List.mem_append_right _ hi))⟩
    · cases h
  · cases h
theorem dcomp_ok (hE : RE F rE) (ok : OkX F s X) (g : GOk F G) {kx vx : Expr} {gens : List Comprehension} {E : Fw.E} (h : trDComp F.T F.N rE (trLStep rE) s kx vx gens scope pos = some E) : Sd G X (.DictComp kx vx gens scope pos) (ev F.C E) := by
  unfold trDComp at h
  split at h
  · rename_i tg iter ifs
    obtain ⟨t, h1, h⟩ := bind_some h
    obtain ⟨⟨k, its⟩, h2, h⟩ := bind_some h
    obtain ⟨cs, h3, h⟩ := bind_some h
    obtain ⟨ke, h4, h⟩ := bind_some h
    obtain ⟨ve, h5, h⟩ := bind_some h
    split at h
    · rename_i hc
      rw [Bool.and_eq_true, Bool.not_eq_true'] at hc
      simp only [Option.some.injEq] at h
      subst h
      have c := comp1_ok hE ok g h1 h2 h3 hc.1 hc.2
      exact sd_dcomp ok.calm ok.ndx c.hi c.ok c.hg c.ht (elt_ok hE ok g c.ok.kind h4) (elt_ok hE ok g c.ok.kind h5) c.hs c.hvs c.hsv
    · cases h
  · cases h
theorem step_ok (hE : RE F rE) : RE F (trStep F.T F.N rE (trLStep rE)) := fun s X G e E ok g h => by
  have hK := ok.hK g
  have hu : X.A.units + 70 < cLine := by have := ok.hu; omega
  cases e with
  | Constant c j pos =>
    obtain ⟨d, hd, rfl⟩ := map_some' h
    exact both (cst_ok hd) rfl
  | Name x pos => exact both (name_ok ok g h) rfl
  | Tuple es k pos =>
    obtain ⟨Es, hEs, rfl⟩ := map_some' h
    exact both (sd_tup (l_ok hE ok g hEs)) rfl
  | List es pos =>
    obtain ⟨Es, hEs, rfl⟩ := map_some' h
    exact both (sd_lst (l_ok hE ok g hEs)) rfl
  | Dict ks vs pos =>
    simp only [trStep] at h
    split at h
    · cases h; exact both sd_dic0 rfl
    · cases h
  | BinOp a o b pos =>
    obtain ⟨op, ho, h⟩ := bind_some h
    obtain ⟨A, hA, h⟩ := bind_some h
    obtain ⟨B, hB, rfl⟩ := map_some' h
    exact both (sd_op (bop_ok hK ho) (hE s X G _ A ok g hA).1 (hE s X G _ B ok g hB).1) rfl
  | UnaryOp o a pos =>
    obtain ⟨op, ho, h⟩ := bind_some h
    obtain ⟨A, hA, rfl⟩ := map_some' h
    obtain ⟨h1, h2⟩ := hE s X G _ A ok g hA
    cases o <;> simp only [unB] at ho <;> first | (cases ho; done) | cases ho
    · exact both (sd_un (un_ok un_inv fun x d e => by cases x <;> simp [un] at e; exact ⟨_, rfl, e.symm⟩) h1) rfl
    · exact sd_not h1 h2
    · exact both (sd_un (un_ok un_neg fun x d e => by cases x <;> simp [un] at e; exact ⟨_, rfl, e.symm⟩) h1) rfl
  | BoolOp op es pos =>
    obtain ⟨h1, h2⟩ := bool_ok hE ok g (pos := pos) h
    exact ⟨h1, h2.pt⟩
  | Compare a ops cs pos => exact cmp_ok hE ok g h
  | IfExp t a b pos =>
    obtain ⟨T, hT, h⟩ := bind_some h
    obtain ⟨A, hA, h⟩ := bind_some h
    obtain ⟨B, hB, rfl⟩ := map_some' h
    exact ⟨sd_ite (hE s X G _ T ok g hT).2 (hE s X G _ A ok g hA).1 (hE s X G _ B ok g hB).1, sdt_ite (hE s X G _ T ok g hT).2 (hE s X G _ A ok g hA).2 (hE s X G _ B ok g hB).2⟩
  | Subscript a i pos => exact both (sub_ok hE ok g h) rfl
  | Attribute a m pos =>
    simp only [trStep] at h
    split at h
    · rename_i hc
      rw [Bool.and_eq_true] at hc
      obtain ⟨A, hA, rfl⟩ := map_some' h
      exact both (sd_fld (hE s X G _ A ok g hA).1 (ab_ok hc.2) fun c hcn => by rw [g.ca]; rw [g.nc] at hcn; exact ok.flds m hc.1 c hcn) rfl
    · cases h
  | Call f args kws pos =>
    simp only [trStep] at h
    split at h
    · unfold trCall at h
      split at h
      · exact both (callN_ok hE ok g h) rfl
      · exact both (callA_ok hE ok g h) rfl
      · cases h
    · cases h
  | ListComp elt gens scope pos => exact both (lcomp_ok hE ok g h).1 rfl
  | DictComp kx vx gens scope pos => exact both (dcomp_ok hE ok g h) rfl
  | _ => cases h
end
theorem tr_ok (F : Fix) : ∀ n, RE F (trE F.T F.N n)
  | 0 => fun s X G e E ok g h => by cases h
  | n + 1 => step_ok (tr_ok F n)
end Fw
end
section
set_option Elab.async false
set_option linter.all false
set_option autoImplicit false
set_option maxRecDepth 100000
set_option maxHeartbeats 4000000
/-! Fw17: the translation says what the text does: statements, defs. -/
namespace Fw
open PySem PySem.Spec PyProof.Rows L2
theorem zip_look : ∀ {ps : List Str} {us : List Value} {x : Str}, us.length = ps.length → x ∈ ps → ((ps.zip us).lookup x).isNone = false
  | p :: ps, [], x, h, _ => by simp at h
  | p :: ps, u :: us, x, h, m => by
    show ((List.lookup x ((p, u) :: ps.zip us))).isNone = false
    rw [List.lookup_cons]
    by_cases e : x = p
    · subst e; simp
    · have : (x == p) = false := by simpa using e
      rw [this]
      exact zip_look (by simpa using h) (by rcases List.mem_cons.mp m with z | z; exact absurd z e; exact z)
theorem zip_look2 : ∀ {ps : List Str} {us : List Value} {l : List (Str × Value)}, us.length = ps.length → ps.Nodup → (∀ x u, (x, u) ∈ ps.zip us → l.lookup x = some u) → (ps.filterMap fun n => (l.lookup n).map fun x => (n, x)) = ps.zip us
  | [], [], _, _, _, _ => rfl
  | p :: ps, [], _, h, _, _ => by simp at h
  | [], u :: us, _, h, _, _ => by simp at h
  | p :: ps, u :: us, l, h, nd, hl => by
    rw [List.filterMap_cons, hl p u (by simp)]
    simp only [Option.map_some]
    rw [zip_look2 (by simpa using h) (List.nodup_cons.mp nd).2 fun x w m => hl x w (by simp [m])]
    rfl
theorem zip_mem : ∀ {ps : List Str} {us : List Value} {x : Str} {u : Value}, ps.Nodup → (x, u) ∈ ps.zip us → (ps.zip us).lookup x = some u
  | [], _, x, u, _, m => by simp at m
  | p :: ps, [], x, u, _, m => by simp at m
  | p :: ps, v :: us, x, u, nd, m => by
    rw [List.zip_cons_cons] at m ⊢
    rw [List.lookup_cons]
    rcases List.mem_cons.mp m with e | m
    · cases e; simp
    · have hp : x ∈ ps := (List.of_mem_zip m).1
      have : (x == p) = false := by
        have ne : x ≠ p := fun e => (List.nodup_cons.mp nd).1 (e ▸ hp)
        simpa using ne
      rw [this]
      exact zip_mem (List.nodup_cons.mp nd).2 m
theorem bind_plain {x qual : Str} {as : List Arg} {body : List Stmt} {scope : Scope} {kV doc pm cdv ct : Value} {an : Option Addr} {us : List Value} (nd : (as.map (·.arg)).Nodup) (hl : us.length = (as.map (·.arg)).length) :
    bindArgs (PySem.W.fnOf x qual ⟨[], as, none, [], [], none, []⟩ body scope .none kV doc pm an cdv ct) ⟨us, []⟩ = pure ((as.map (·.arg)).zip us) := by
  have h4 : ∀ l : List Str, (∀ x ∈ l, x ∈ as.map (·.arg)) → (l.filter fun n => (((as.map (·.arg)).zip us).lookup n).isNone) = [] := fun l hl' => by
    rw [List.filter_eq_nil_iff]
    intro a ha
    rw [zip_look hl (hl' a ha)]
    simp
  have h5 := zip_look2 hl nd fun x u m => zip_mem nd m
  unfold bindArgs PySem.W.fnOf
  simp only [List.map_nil, List.nil_append]
  simp [seqItems?, hl]
  have h6 : notAStandIn Value.none = pure () := rfl
  rw [h6]
  rw [if_neg (by rw [h4 _ fun x hx => List.mem_of_mem_take hx]; simp)]
  simp only [List.filterMap_map] at h5
  rw [h5]
  rfl

section
variable {F : Fix} {s : Sc} {X : Cx} {G : Cn} {x : Str} {i : Nat} {pos p pp : Pos} {n : Nat}
/-- the decision by the names' kinds -/
def swPick (loc : Str → Bool) (ts : List Expr) : List Str := ts.filterMap fun (e : Expr) => match e with
  | .Name id pos => if loc id && pos.line == (ts.head?.map (·.pos.line)).getD 0 then some id else none
  | _ => none
def swBody (loc : Str → Bool) (bk : ScopeKind) (ts vs : List Expr) : Sem (Option (List Str)) :=
  if !(ts.length == 2 || ts.length == 3) || vs.length != ts.length || bk != .function then pure none else
  if vs.any isStar then pure none else
  if (swPick loc ts).length != ts.length || (swPick loc ts).eraseDups.length != (swPick loc ts).length then pure none else
  if vs.all (foldedForSure 8) then pure none else
  if vs.all (constantsAlone 8) then (do unsupported "assign.tuple-of-constant-expressions:order-of-the-stores"; pure (some (swPick loc ts))) else pure (some (swPick loc ts))
theorem sw_body {env : Env} {ts vs : List Expr} {k k2 : Nat} {p2 : Pos} : swappedStores [.Tuple ts k p] (.Tuple vs k2 p2) env = swBody (fun id => env.kindOf id == some .local) env.blockKind ts vs := by
  rfl
theorem stores_tup (ok : OkX F s X) {ts vs : List Expr} {k k2 : Nat} {p2 : Pos} : (swNone s ts vs = true → swappedStores [.Tuple ts k p] (.Tuple vs k2 p2) X.env = pure none) ∧
    (swNone s ts vs = false → vs.all (constantsAlone 8) = false → swappedStores [.Tuple ts k p] (.Tuple vs k2 p2) X.env = pure (some (swNames s ts))) := by
  have hb : X.env.blockKind = .function := by unfold Env.blockKind; rw [ok.sc, ok.kind]; rfl
  have hk : (fun id => X.env.kindOf id == some NameKind.local) = fun id => s.kind id == some .local := by funext y; rw [ok.lk]
  have hn : swPick (fun id => s.kind id == some .local) ts = swNames s ts := rfl
  rw [sw_body, hk, hb]
  unfold swBody
  rw [hn]
  have hf : (ScopeKind.function != ScopeKind.function) = false := rfl
  rw [hf, Bool.or_false]
  unfold swNone
  generalize (!(ts.length == 2 || ts.length == 3) || vs.length != ts.length) = b1
  generalize vs.any isStar = b2
  generalize ((swNames s ts).length != ts.length || (swNames s ts).eraseDups.length != (swNames s ts).length) = b3
  generalize vs.all (foldedForSure 8) = b4
  generalize vs.all (constantsAlone 8) = b5
  cases b1 <;> cases b2 <;> cases b3 <;> cases b4 <;> cases b5 <;> simp
theorem pick2 {x1 x2 : Str} {p1 p2 : Pos} (h : (swNames s [.Name x1 p1, .Name x2 p2]).length = 2) : swNames s [.Name x1 p1, .Name x2 p2] = [x1, x2] := by
  unfold swNames at h ⊢
  simp only [List.filterMap_cons, List.filterMap_nil] at h ⊢
  generalize (s.kind x1 == some .local && p1.line == _) = b1 at h ⊢
  generalize (s.kind x2 == some .local && p2.line == _) = b2 at h ⊢
  cases b1 <;> cases b2 <;> first | rfl | (simp at h; done)
theorem pick3 {x1 x2 x3 : Str} {p1 p2 p3 : Pos} (h : (swNames s [.Name x1 p1, .Name x2 p2, .Name x3 p3]).length = 3) : swNames s [.Name x1 p1, .Name x2 p2, .Name x3 p3] = [x1, x2, x3] := by
  unfold swNames at h ⊢
  simp only [List.filterMap_cons, List.filterMap_nil] at h ⊢
  generalize (s.kind x1 == some .local && p1.line == _) = b1 at h ⊢
  generalize (s.kind x2 == some .local && p2.line == _) = b2 at h ⊢
  generalize (s.kind x3 == some .local && p3.line == _) = b3 at h ⊢
  cases b1 <;> cases b2 <;> cases b3 <;> first | rfl | (simp at h; done)
def RS (F : Fix) (r : Sc → List Stmt → Option (List Stm)) : Prop := ∀ (s : Sc) (X : Cx) (G : Cn) (sts : List Stmt) (Ss : List Stm), OkX F s X → GOk F G → r s sts = some Ss → Sss G X sts (exs F.C Ss)
variable {rE : Sc → Expr → Option E} {rS : Sc → List Stmt → Option (List Stm)}
theorem nameIx_shape {e : Expr} (h : nameIx s F.N e = some i) : ∃ x p, e = .Name x p ∧ s.kind x = some .local ∧ ixOf F.N x = some i := by
  unfold nameIx at h
  split at h
  · split at h
    · rename_i hl; exact ⟨_, _, rfl, by simpa using hl, h⟩
    · cases h
  · cases h
theorem nameIxs_cons {e : Expr} {es : List Expr} {is : List Nat} (h : nameIxs s F.N (e :: es) = some is) : ∃ i r, is = i :: r ∧ nameIx s F.N e = some i ∧ nameIxs s F.N es = some r := by
  obtain ⟨i, hi, h⟩ := bind_some h
  obtain ⟨r, hr, rfl⟩ := map_some' h
  exact ⟨i, r, rfl, hi, hr⟩
theorem nameIxs_nil {is : List Nat} (h : nameIxs s F.N [] = some is) : is = [] := by
  simp only [nameIxs, Option.some.injEq] at h
  exact h.symm
theorem asg_ok {rL : Sc → List Expr → Option (List E)} (m : Nat) (hE : RE F rE) (hrE : rE = trE F.T F.N m) (ok : OkX F s X) (g : GOk F G) {tg value : Expr} {st : Stm} (h : trAsg F.T F.N rE (trLStep rE) s tg value = some st) : Ss G X (.Assign [tg] value pos) (ex F.C st) := by
  have hK := ok.hK g
  have hu : X.A.units + 70 < cLine := by have := ok.hu; omega
  have tupGen : ∀ {ts : List Expr} {k : Nat} {p : Pos} {st : Stm}, swappedStores [.Tuple ts k p] value X.env = pure none → ((trTgt F.N s (.Tuple ts k p)).bind fun t => (rE s value).map (Stm.asg t)) = some st → Ss G X (.Assign [.Tuple ts k p] value pos) (ex F.C st) := fun hw h => by
    obtain ⟨t, ht, h⟩ := bind_some h
    obtain ⟨V, hV, rfl⟩ := map_some' h
    exact ss_asgT (hE s X G _ V ok g hV).1 (tgt_ok ok g ht) (by rw [sole_eq]; exact swaps_other rfl) hw (asg_each rfl)
  unfold trAsg at h
  split at h
  · rename_i x px
    split at h
    · rename_i hc
      rw [Bool.and_eq_true] at hc
      obtain ⟨i, hi, h⟩ := bind_some h
      obtain ⟨V, hV, rfl⟩ := map_some' h
      have hl := ok.locv hc.1
      have plain : swapsWith value (some (.Name x px)) pos.line X.env = pure false → Ss G X (.Assign [.Name x px] value pos) (ex F.C (.asg (.name i) V)) := fun hs => ss_set ok.ndx (ok.at_ hi) hl.1 (hE s X G _ V ok g hV).1 hs hl.2
      cases value with
      | ListComp elt gens scope cpos =>
        by_cases hsw : swB s scope x px cpos = true
        · subst hrE
          cases m with
          | zero => cases hV
          | succ m => exact (lcomp_ok (tr_ok F m) ok g hV).2 x px pos i hi hsw
        · exact plain (swap_false (r := true) ok (.inl ⟨_, _, rfl⟩) (by simpa using hsw))
      | DictComp kx vx gens scope cpos =>
        have hsw : swB s scope x px cpos = false := by simpa [asgOk] using hc.2
        exact plain (swap_false (r := true) ok (.inr ⟨_, _, _, rfl⟩) hsw)
      | SetComp elt gens scope cpos => simp [asgOk] at hc
      | _ => exact plain (swaps_plain rfl)
    · cases h
  · rename_i ts k p
    split at h
    · rename_i vs k2 p2
      split at h
      · rename_i hn
        exact tupGen ((stores_tup ok).1 hn) h
      · rename_i hn
        split at h
        · cases h
        · rename_i hc
          split at h
          · rename_i hq
            simp only [Bool.and_eq_true] at hq
            obtain ⟨⟨hs, hlen⟩, hl2⟩ := hq
            obtain ⟨is, his, h⟩ := bind_some h
            split at h
            · rename_i hnd
              obtain ⟨Es, hEs, rfl⟩ := map_some' h
              have hw := (stores_tup (p := p) (k := k) (k2 := k2) (p2 := p2) ok (ts := ts) (vs := vs)).2 (by simpa using hn) (by simpa using hc)
              have hsole : swapsWithSole [.Tuple ts k p] (.Tuple vs k2 p2) pos.line X.env = pure false := by rw [sole_eq]; exact swaps_plain rfl
              have hnm : (swNames s ts).length = ts.length := by
                have : swNone s ts vs = false := by simpa using hn
                unfold swNone at this
                simp only [Bool.or_eq_false_iff] at this
                obtain ⟨⟨_, h3, _⟩, _⟩ := this
                simpa using h3
              have hlv : vs.length = ts.length := by simpa using hl2
              have ha := l_ok hE ok g hEs
              clear tupGen hn hc hl2 hs hEs h
              match ts, vs, is, hlen, hlv, his, hnd, hw, hnm, hsole, ha with
              | [t1, t2], [v1, v2], is, _, _, his, hnd, hw, hnm, hsole, ha =>
                obtain ⟨i1, r1, rfl, h1, ha1⟩ := nameIxs_cons his
                obtain ⟨i2, r2, rfl, h2, ha2⟩ := nameIxs_cons ha1
                obtain rfl := nameIxs_nil ha2
                obtain ⟨x1, p1, rfl, k1, j1⟩ := nameIx_shape h1
                obtain ⟨x2, p2', rfl, k2', j2⟩ := nameIx_shape h2
                have hne : i1 ≠ i2 := by
                  intro e
                  subst e
                  simp at hnd
                have e : swNames s [.Name x1 p1, .Name x2 p2'] = [x1, x2] := pick2 hnm
                rw [e] at hw
                exact ss_par ok.calm ok.ndx (ok.at_ j1) (ok.at_ j2) hne (by rw [ok.sc]; exact k1) (by rw [ok.sc]; exact k2') ha hw hsole
              | [t1, t2, t3], [v1, v2, v3], is, _, _, his, hnd, hw, hnm, hsole, ha =>
                obtain ⟨i1, r1, rfl, h1, ha1⟩ := nameIxs_cons his
                obtain ⟨i2, r2, rfl, h2, ha2⟩ := nameIxs_cons ha1
                obtain ⟨i3, r3, rfl, h3, ha3⟩ := nameIxs_cons ha2
                obtain rfl := nameIxs_nil ha3
                obtain ⟨x1, p1, rfl, k1, j1⟩ := nameIx_shape h1
                obtain ⟨x2, p2', rfl, k2', j2⟩ := nameIx_shape h2
                obtain ⟨x3, p3, rfl, k3, j3⟩ := nameIx_shape h3
                have hnd := of_decide_eq_true hnd
                simp only [List.nodup_cons, List.mem_cons, List.not_mem_nil, or_false, not_or, List.nodup_nil, and_true] at hnd
                have e : swNames s [.Name x1 p1, .Name x2 p2', .Name x3 p3] = [x1, x2, x3] := pick3 hnm
                rw [e] at hw
                exact ss_par3 ok.calm ok.ndx (ok.at_ j1) (ok.at_ j2) (ok.at_ j3) hnd.1.1 hnd.1.2 hnd.2.1 (by rw [ok.sc]; exact k1) (by rw [ok.sc]; exact k2') (by rw [ok.sc]; exact k3) ha hw hsole
            · cases h
          · cases h
    · rename_i hnt
      refine tupGen (stores_val ?_) h
      cases value <;> first | rfl | (exact absurd rfl (hnt _ _ _))
  · rename_i o i2 p
    split at h
    · cases h
    · rename_i hsl
      obtain ⟨V, hV, h⟩ := bind_some h
      obtain ⟨O, hO, h⟩ := bind_some h
      obtain ⟨I, hI, rfl⟩ := map_some' h
      exact ss_setI (by omega) (hE s X G _ V ok g hV).1 (hE s X G _ O ok g hO).1 (hE s X G _ I ok g hI).1 (swaps_other rfl) (by rw [sole_eq]; exact swaps_other rfl) (stores_none rfl) (asg_each rfl) (assign_sub (by simpa using hsl))
  · split at h
    · rename_i hc
      obtain ⟨V, hV, h⟩ := bind_some h
      obtain ⟨O, hO, rfl⟩ := map_some' h
      exact ss_setF (hE s X G _ V ok g hV).1 (hE s X G _ O ok g hO).1 (fun c hcn => by rw [g.ca]; rw [g.nc] at hcn; exact ok.flds _ hc c hcn) (swaps_other rfl)
    · cases h
  · cases h
theorem doc_shape {e : Expr} (h : isDoc e = true) : ∃ z j p, e = .Constant (.str z) j p := by
  unfold isDoc at h
  split at h
  · exact ⟨_, _, _, rfl⟩
  · cases h
theorem stm_ok (m : Nat) (hS : RS F rS) (ok : OkX F s X) (g : GOk F G) {st : Stmt} {S : Stm} (h : trSStep F.T F.N (trE F.T F.N m) (trLStep (trE F.T F.N m)) rS s st = some S) : Ss G X st (ex F.C S) := by
  have hE := tr_ok F m
  have hp : PassesOwn (model X.prog X.w) X.A X.env X.xe := by rw [ok.xe]; exact PassesOwn.never
  cases st with
  | Expr e pos =>
    simp only [trSStep] at h
    split at h
    · rename_i hd
      obtain ⟨z, j, p, rfl⟩ := doc_shape hd
      cases h
      exact ss_doc
    · split at h
      · cases h
      · rename_i hc
        obtain ⟨A, hA, rfl⟩ := map_some' h
        exact ss_expr (hE s X G _ A ok g hA).1 (swaps_plain (by simpa using hc))
  | Return v pos =>
    simp only [trSStep] at h
    split at h
    · cases h; exact ss_retN
    · obtain ⟨A, hA, rfl⟩ := map_some' h
      exact ss_ret (hE s X G _ A ok g hA).1
  | Assign tgs v pos =>
    simp only [trSStep] at h
    split at h
    · exact asg_ok (rL := fun _ _ => none) m hE rfl ok g h
    · cases h
  | AugAssign tg op e pos =>
    simp only [trSStep] at h
    split at h
    · rename_i x px
      split at h
      · rename_i hl
        obtain ⟨i, hi, h⟩ := bind_some h
        obtain ⟨A, hA, rfl⟩ := map_some' h
        exact ss_augAdd ok.ndx (ok.at_ hi) (ok.locv hl).1 (hE s X G _ A ok g hA).1 (ok.locv hl).2
      · cases h
    · cases h
  | If c a b pos =>
    obtain ⟨C, hC, h⟩ := bind_some h
    obtain ⟨A, hA, h⟩ := bind_some h
    obtain ⟨B, hB, rfl⟩ := map_some' h
    exact ss_if (hE s X G _ C ok g hC).2 (hS s X G _ A ok g hA) (hS s X G _ B ok g hB)
  | For tg it body orelse pos =>
    simp only [trSStep] at h
    split at h
    · split at h
      · cases h
      · rename_i hst
        obtain ⟨t, ht, h⟩ := bind_some h
        obtain ⟨⟨k, its⟩, hi, h⟩ := bind_some h
        obtain ⟨B, hB, rfl⟩ := map_some' h
        exact ss_for hp ok.calm (iter_ok hE ok g hi) (tgt_ok ok g ht) (hS s X G _ B ok g hB) fun x => fold_ok (by simpa using hst)
    · cases h
  | While c body orelse pos =>
    simp only [trSStep] at h
    split at h
    · obtain ⟨C, hC, h⟩ := bind_some h
      obtain ⟨B, hB, rfl⟩ := map_some' h
      exact ss_while hp (hE s X G _ C ok g hC).2 (hS s X G _ B ok g hB)
    · cases h
  | Break pos => cases h; exact ss_brk
  | Continue pos => cases h; exact ss_cont
  | Pass pos => cases h; exact ss_pass
  | Raise a b pos => cases h; exact ss_never
  | _ => cases h
theorem sts_ok (F : Fix) (m : Nat) : ∀ n, RS F (trSs F.T F.N m n)
  | 0 => fun s X G sts Ss ok g h => by cases h
  | n + 1 => fun s X G sts Ss ok g h => by
    cases sts with
    | nil =>
      simp only [trSs, Option.some.injEq] at h
      subst h
      exact sss_nil
    | cons st r =>
      obtain ⟨A, hA, h⟩ := bind_some h
      obtain ⟨R, hR, rfl⟩ := map_some' h
      exact sss_cons (stm_ok m (sts_ok F m n) ok g hA) (sts_ok F m n s X G r R ok g hR)
end
end Fw
end
section
set_option Elab.async false
set_option linter.all false
set_option autoImplicit false
set_option maxRecDepth 100000
set_option maxHeartbeats 4000000
/-! FwB: a program's defs, their slots and their translation. -/
namespace Fw
open PySem PySem.Spec PyProof.Rows L2
/-- the names of the blocks within an expression -/
def ownNames (scope : Scope) : List Str := scope.names.filterMap fun p => match p.2 with
  | .local => some p.1
  | .cell => some p.1
  | _ => none
def blkE : Nat → Expr → List Str
  | 0, _ => []
  | n + 1, e => match e with
    | .Tuple es _ _ => es.flatMap (blkE n)
    | .List es _ => es.flatMap (blkE n)
    | .BinOp a _ b _ => blkE n a ++ blkE n b
    | .UnaryOp _ a _ => blkE n a
    | .BoolOp _ es _ => es.flatMap (blkE n)
    | .Compare a _ cs _ => blkE n a ++ cs.flatMap (blkE n)
    | .IfExp t a b _ => blkE n t ++ blkE n a ++ blkE n b
    | .Subscript a i _ => blkE n a ++ blkE n i
    | .Slice lo hi _ _ => (match lo with | some e => blkE n e | none => []) ++ (match hi with | some e => blkE n e | none => [])
    | .Attribute a _ _ => blkE n a
    | .Starred a _ => blkE n a
    | .Call f args _ _ => blkE n f ++ args.flatMap (blkE n)
    | .ListComp elt gens scope _ => ownNames scope ++ blkE n elt ++ gens.flatMap fun g => blkE n g.iter ++ g.ifs.flatMap (blkE n)
    | .DictComp k v gens scope _ => ownNames scope ++ blkE n k ++ blkE n v ++ gens.flatMap fun g => blkE n g.iter ++ g.ifs.flatMap (blkE n)
    | _ => []
def blkSt : Nat → Stmt → List Str
  | 0, _ => []
  | n + 1, s => match s with
    | .Expr e _ => blkE n e
    | .Return (some e) _ => blkE n e
    | .Assign ts e _ => ts.flatMap (blkE n) ++ blkE n e
    | .AugAssign t _ e _ => blkE n t ++ blkE n e
    | .If c a b _ => blkE n c ++ a.flatMap (blkSt n) ++ b.flatMap (blkSt n)
    | .For t it a b _ => blkE n it ++ a.flatMap (blkSt n) ++ b.flatMap (blkSt n)
    | .While c a b _ => blkE n c ++ a.flatMap (blkSt n) ++ b.flatMap (blkSt n)
    | _ => []
def isDot0 (x : Str) : Bool := x.cps.toList.head? == some 46
def dedup : List Str → List Str → List Str
  | [], acc => acc.reverse
  | x :: r, acc => if acc.contains x || isDot0 x then dedup r acc else dedup r (x :: acc)
/-- a def of the text -/
structure Df where
  name : Str
  cls : Option Str
  params : Arguments
  body : List Stmt
  scope : Scope
def Df.ps (d : Df) : List Str := (d.params.posonlyargs ++ d.params.args).map (·.arg)
def Df.N (d : Df) : List Str := dedup (d.ps ++ ownNames d.scope ++ d.body.flatMap (blkSt 30)) []
def Df.sc (d : Df) : Sc := ⟨d.scope, fun _ => true⟩
def dfsOf : List Stmt → List Df
  | [] => []
  | .FunctionDef n a b _ _ _ sc _ _ _ :: r => ⟨n, none, a, b, sc⟩ :: dfsOf r
  | .ClassDef n _ _ body _ _ _ _ _ _ _ :: r => (body.filterMap fun s => match s with
     | .FunctionDef m a b _ _ _ sc _ _ _ => some (⟨m, some n, a, b, sc⟩ : Df)
     | _ => none) ++ dfsOf r
  | _ :: r => dfsOf r
def numbered {α : Type} : Nat → List α → List (Nat × α)
  | _, [] => []
  | n, a :: r => (n, a) :: numbered (n + 1) r
def fnsOf (ds : List Df) : List (Str × Nat) := (numbered 0 ds).filterMap fun p => match p.2.cls with
  | none => some (p.2.name, p.1)
  | some _ => none
def clsNames (ds : List Df) : List Str := dedup (ds.filterMap (·.cls)) []
def clsOf (ds : List Df) : List (Str × Nat) := (numbered 0 (clsNames ds)).map fun p => (p.2, p.1)
def methsOf (ds : List Df) : List (List (Str × Nat)) := (clsNames ds).map fun c => (numbered 0 ds).filterMap fun p => if p.2.cls = some c then some (p.2.name, p.1) else none
def fieldsS : Nat → Stmt → List Str
  | 0, _ => []
  | n + 1, s => match s with
    | .Assign [.Attribute _ m _] _ _ => [m]
    | .If _ a b _ => a.flatMap (fieldsS n) ++ b.flatMap (fieldsS n)
    | .For _ _ a _ _ => a.flatMap (fieldsS n)
    | .While _ a _ _ => a.flatMap (fieldsS n)
    | _ => []
def fldsOf (ds : List Df) : List Str := dedup (ds.flatMap fun d => d.body.flatMap (fieldsS 20)) []
def mthNames (ds : List Df) : List Str := dedup (ds.filterMap fun d => if d.cls.isSome then some d.name else none) []
/-- the constants of the text -/
def litD : Nat → Expr → Option D
  | 0, _ => none
  | n + 1, e => match e with
    | .Constant c _ _ => cstD c
    | .Tuple es _ _ => (litL n es).map .tup
    | _ => none
where litL (n : Nat) : List Expr → Option (List D)
  | [] => some []
  | e :: es => (litD n e).bind fun d => (litL n es).map fun r => d :: r
def cstsOf : List Stmt → List (Str × D)
  | [] => []
  | .Assign [.Name x _] v _ :: r => if x = "__name__" then cstsOf r else (match litD 10 v with
    | some d => (x, d) :: cstsOf r
    | none => cstsOf r)
  | _ :: r => cstsOf r
def litK : List (Option Expr) → List Expr → Option (List (D × D))
  | [], [] => some []
  | some k :: ks, v :: vs => (litD 10 k).bind fun k => (litD 10 v).bind fun v => (litK ks vs).map fun r => (k, v) :: r
  | _, _ => none
def dctsOf : List Stmt → List (Str × List (D × D))
  | [] => []
  | .Assign [.Name x _] (.Dict ks vs _) _ :: r => (match litK ks vs with
    | some d => (x, d) :: dctsOf r
    | none => dctsOf r)
  | _ :: r => dctsOf r
def bltAll : List Str := ["len", "int", "abs", "all", "any", "sum", "max", "sorted", "tuple", "list", "str", "range", "enumerate", "zip"]
/-- names whose rows are written -/
def mutS : Nat → Stmt → List Str
  | 0, _ => []
  | n + 1, s => match s with
    | .Expr (.Call (.Attribute (.Name x _) m _) _ _ _) _ => if m = "append" || m = "extend" || m = "update" then [x] else []
    | .Assign [.Subscript (.Name x _) _ _] _ _ => [x]
    | .If _ a b _ => a.flatMap (mutS n) ++ b.flatMap (mutS n)
    | .For _ _ a _ _ => a.flatMap (mutS n)
    | .While _ a _ _ => a.flatMap (mutS n)
    | _ => []
def dispPos : Expr → List (Nat × Nat)
  | .List _ p => [(p.line, p.col)]
  | .Dict _ _ p => [(p.line, p.col)]
  | .ListComp _ _ _ p => [(p.line, p.col)]
  | .DictComp _ _ _ _ p => [(p.line, p.col)]
  | _ => []
def cellS (xs : List Str) : Nat → Stmt → List (Nat × Nat)
  | 0, _ => []
  | n + 1, s => match s with
    | .Assign [.Name x _] v _ => if xs.contains x then dispPos v else []
    | .If _ a b _ => a.flatMap (cellS xs n) ++ b.flatMap (cellS xs n)
    | .For _ _ a _ _ => a.flatMap (cellS xs n)
    | .While _ a _ _ => a.flatMap (cellS xs n)
    | _ => []
def cellsOf (more : List Str) (ds : List Df) : List (Nat × Nat) := ds.flatMap fun d => d.body.flatMap (cellS (more ++ d.body.flatMap (mutS 20)) 20)
def tabOf (body : List Stmt) (cells : List (Nat × Nat)) : Tab where
  fns := fnsOf (dfsOf body)
  cls := clsOf (dfsOf body)
  flds := fldsOf (dfsOf body)
  meths := mthNames (dfsOf body)
  blt := bltAll
  cst := cstsOf body
  dct := dctsOf body
  cell := fun p => cells.contains (p.line, p.col)
def trAll (T : Tab) (nE nS : Nat) : List Df → Option (List FD)
  | [] => some []
  | d :: ds => (trSs T d.N nE nS d.sc d.body).bind fun b => (trAll T nE nS ds).map fun r => ⟨d.ps.length, d.N.length - d.ps.length, b⟩ :: r
def progOf (body : List Stmt) (more : List Str) (W : Nat) : Option Prog :=
  (trAll (tabOf body (cellsOf more (dfsOf body))) 60 60 (dfsOf body)).map fun fs => ⟨fs, methsOf (dfsOf body), W⟩
def trDf (T : Tab) (d : Df) : Option FD := (trSs T d.N 60 60 d.sc d.body).map fun b => ⟨d.ps.length, d.N.length - d.ps.length, b⟩
end Fw
end
section
set_option Elab.async false
set_option linter.all false
set_option autoImplicit false
set_option maxRecDepth 100000
set_option maxHeartbeats 4000000
/-! Fw18: a program's defs do what the own language says. -/
namespace Fw
open PySem PySem.Spec PyProof.Rows L2
/-! ### leaving a frame -/
section
variable {G : Cn} {ι ι' : List Addr} {H H' : Hp} {S S' S1 : Store}
theorem getI_lt {n : Nat} {a : Addr} (h : ι[n]? = some a) : n < ι.length := (List.getElem?_eq_some_iff.mp h).1
mutual
theorem Rep.okR {d : D} {v : V} : Rep G ι H d v → D.okR ι.length d = true
  | .non => rfl
  | .bl b => rfl
  | .int i => rfl
  | .str s h => rfl
  | .tup t z r => by rw [D.okR]; exact Reps.okR r
  | .lst t n z r => by rw [D.okR]; exact Reps.okR r
  | .dic t n z r => by rw [D.okR]; exact RepK.okR r
  | .ref h => by rw [D.okR]; exact decide_eq_true (getI_lt h)
  | .inp t z r => by rw [D.okR]; exact Reps.okR r
theorem Reps.okR {d : List D} {v : List V} : Reps G ι H d v → D.okRs ι.length d = true
  | .nil => rfl
  | .cons h t => by rw [D.okRs, Rep.okR h, Reps.okR t]; rfl
theorem RepK.okR {d : List (D × D)} {v : List (Key × V)} : RepK G ι H d v → D.okRk ι.length d = true
  | .nil => rfl
  | .cons e hk h t => by rw [D.okRk, Rep.okR hk, Rep.okR h, RepK.okR t]; rfl
end
theorem RepF.okR {d : List (Str × D)} {v : List (Str × V)} : RepF G ι H d v → okF ι.length d = true
  | .nil => rfl
  | .cons h t => by rw [okF, h.okR, RepF.okR t]; rfl
theorem CellR.okR {c : Cell} {a : Addr} (r : CellR G ι H c a) : Cell.okR ι.length c = true := by
  cases c with
  | lst xs => obtain ⟨vs, h, z, q⟩ := r; exact q.okR
  | dic kvs => obtain ⟨vs, h, z, q⟩ := r; exact q.okR
  | fro xs => obtain ⟨vs, h, z, q⟩ := r; exact q.okR
  | ins c fs => obtain ⟨hc, dx, vs, h, z, q⟩ := r; exact q.okR
theorem fre_down (x : Ext ι H ι' H') {a : Addr} (h : Fre G ι' a) : Fre G ι a := ⟨fun m => h.1 (x.sub m), h.2⟩
theorem ref_down (x : Ext ι H ι' H') {n : Nat} {a : Addr} (hn : n < ι.length) (h : ι'[n]? = some a) : ι[n]? = some a := by
  obtain ⟨t, e, _⟩ := x.pre
  rw [e, List.getElem?_append_left hn] at h
  exact h
theorem TupAt.down (x : Ext ι H ι' H') {a : Addr} {xs : List V} (t : TupAt G ι' H' a xs) : TupAt G ι H' a xs := by
  rcases t with ⟨r, n⟩ | k
  · exact .inl ⟨r, fre_down x n⟩
  · exact .inr k
theorem InpAt.down (x : Ext ι H ι' H') {a : Addr} {xs : List V} (t : InpAt G ι' H' a xs) : InpAt G ι H' a xs := by
  rcases t with ⟨r, n⟩ | k
  · exact .inl ⟨r, fre_down x n⟩
  · exact .inr k
mutual
theorem Rep.down (x : Ext ι H ι' H') {d : D} {v : V} : Rep G ι' H' d v → D.okR ι.length d = true → Rep G ι H' d v
  | .non, _ => .non
  | .bl b, _ => .bl b
  | .int i, _ => .int i
  | .str s h, _ => .str s h
  | .tup t z r, e => by rw [D.okR] at e; exact .tup (t.down x) z (Reps.down x r e)
  | .lst t n z r, e => by rw [D.okR] at e; exact .lst t (fre_down x n) z (Reps.down x r e)
  | .dic t n z r, e => by rw [D.okR] at e; exact .dic t (fre_down x n) z (RepK.down x r e)
  | .ref h, e => by rw [D.okR] at e; exact .ref (ref_down x (of_decide_eq_true e) h)
  | .inp t z r, e => by rw [D.okR] at e; exact .inp (t.down x) z (Reps.down x r e)
theorem Reps.down (x : Ext ι H ι' H') {d : List D} {v : List V} : Reps G ι' H' d v → D.okRs ι.length d = true → Reps G ι H' d v
  | .nil, _ => .nil
  | .cons h t, e => by rw [D.okRs, Bool.and_eq_true] at e; exact .cons (Rep.down x h e.1) (Reps.down x t e.2)
theorem RepK.down (x : Ext ι H ι' H') {d : List (D × D)} {v : List (Key × V)} : RepK G ι' H' d v → D.okRk ι.length d = true → RepK G ι H' d v
  | .nil, _ => .nil
  | .cons e hk h t, q => by rw [D.okRk, Bool.and_eq_true, Bool.and_eq_true] at q; exact .cons e (Rep.down x hk q.1.1) (Rep.down x h q.1.2) (RepK.down x t q.2)
end
theorem RepF.down (x : Ext ι H ι' H') : ∀ {d : List (Str × D)} {v : List (Str × V)}, RepF G ι' H' d v → okF ι.length d = true → RepF G ι H' d v
  | _, _, .nil, _ => .nil
  | _, _, .cons h t, e => by rw [okF, Bool.and_eq_true] at e; exact .cons (h.down x e.1) (RepF.down x t e.2)
theorem CellR.down (x : Ext ι H ι' H') {c : Cell} {a : Addr} (r : CellR G ι' H' c a) (e : Cell.okR ι.length c = true) : CellR G ι H' c a := by
  cases c with
  | lst xs => obtain ⟨vs, h, z, q⟩ := r; exact ⟨vs, h, z, q.down x e⟩
  | dic kvs => obtain ⟨vs, h, z, q⟩ := r; exact ⟨vs, h, z, q.down x e⟩
  | fro xs => obtain ⟨vs, h, z, q⟩ := r; exact ⟨vs, h, z, q.down x e⟩
  | ins c fs => obtain ⟨hc, dx, vs, h, z, q⟩ := r; exact ⟨hc, dx, vs, h, z, q.down x e⟩
theorem keep_get : ∀ {b : Nat} {S S1 : Store}, keepOk b S S1 = true → S.length ≤ S1.length ∧ ∀ (n : Nat) c c', S[n]? = some c → S1[n]? = some c' → (c = c' ∨ Cell.okR b c' = true)
  | b, [], S1, _ => ⟨Nat.zero_le _, fun n c c' h => by simp at h⟩
  | b, a :: S, [], h => by simp [keepOk] at h
  | b, a :: S, a' :: S1, h => by
    rw [keepOk, Bool.and_eq_true, Bool.or_eq_true] at h
    obtain ⟨h1, h2⟩ := keep_get h.2
    refine ⟨by simpa using h1, fun n c c' e e' => ?_⟩
    cases n with
    | zero =>
      simp at e e'
      subst e
      subst e'
      rcases h.1 with k | k
      · exact .inl (Cell.same_eq _ _ k)
      · exact .inr k
    | succ n => exact h2 n c c' (by simpa using e) (by simpa using e')
/-- the frame's cells are gone -/
theorem leave_sr (sr : SR G ι S H) (x : Ext ι H ι' H') (sr1 : SR G ι' S1 H') (hk : keepOk S.length S S1 = true) : SR G ι (S1.take S.length) H' := by
  obtain ⟨hl, hg⟩ := keep_get hk
  refine ⟨by rw [List.length_take, sr.len]; omega, sr.nd, fun a m => ⟨(sr.hid a m).1, (sr1.hid a m).2⟩, fun n c e => ?_⟩
  have hn : n < S.length := by
    have := (List.getElem?_eq_some_iff.mp e).1
    rw [List.length_take] at this
    omega
  rw [List.getElem?_take_of_lt hn] at e
  obtain ⟨a, ea, r⟩ := sr1.cell n c e
  have hn' : n < ι.length := by rw [sr.len]; exact hn
  have ea' := ref_down x hn' ea
  refine ⟨a, ea', r.down x ?_⟩
  rcases hg n S[n] c (List.getElem?_eq_getElem hn) e with z | z
  · obtain ⟨a0, ea0, r0⟩ := sr.cell n S[n] (List.getElem?_eq_getElem hn)
    rw [← z]
    exact r0.okR
  · rw [sr.len]; exact z
theorem leave_rep (sr : SR G ι S H) (x : Ext ι H ι' H') (sr1 : SR G ι' S1 H') {d d' : D} {v : V} (r : Rep G ι' H' d v) (e : leave S.length S1 d = some d') : Rep G ι H' d' v := by
  unfold leave at e
  split at e
  rotate_left
  · cases e
  rename_i hok
  simp only [Option.some.injEq] at e
  subst e
  cases d with
  | ref n =>
    simp only [unref] at hok ⊢
    by_cases hn : n < S.length
    · rw [if_pos hn] at hok ⊢
      rw [← sr.len] at hok
      exact r.down x hok
    · rw [if_neg hn] at hok ⊢
      by_cases hnf : noFro S1 (.ref n) = true
      rotate_left
      · rw [if_neg hnf, D.okR] at hok
        exact absurd (of_decide_eq_true hok) hn
      rw [if_pos hnf] at hok ⊢
      rw [← sr.len] at hok
      cases r with
      | @ref _ a ha =>
      have hfr : Fre G ι a := by
        refine ⟨fun m => ?_, fun m => (sr1.hid a m).1 (List.mem_of_getElem? ha)⟩
        obtain ⟨k, hk, ek⟩ := List.getElem_of_mem m
        have e2 : ι'[k]? = some a := x.get (by rw [List.getElem?_eq_getElem hk, ek])
        obtain ⟨h1, e1⟩ := List.getElem?_eq_some_iff.mp ha
        obtain ⟨h2, e3⟩ := List.getElem?_eq_some_iff.mp e2
        have := (List.getElem_inj sr1.nd).mp (e1.trans e3.symm)
        rw [sr.len] at hk
        omega
      cases hc : S1[n]? with
      | none =>
        simp only [deref, hc] at hok
        rw [D.okR, sr.len] at hok
        exact absurd (of_decide_eq_true hok) hn
      | some cell =>
        obtain ⟨b, hb, q⟩ := sr1.cell n _ hc
        rw [ha] at hb
        cases hb
        cases cell with
        | lst xs =>
          simp only [deref, hc] at hok ⊢
          obtain ⟨vs, q, z, rr⟩ := q
          rw [D.okR] at hok
          exact .lst q hfr z (rr.down x hok)
        | dic xs =>
          simp only [deref, hc] at hok ⊢
          obtain ⟨vs, q, z, rr⟩ := q
          rw [D.okR] at hok
          exact .dic q hfr z (rr.down x hok)
        | fro xs => simp [noFro, hc] at hnf
        | ins c fs =>
          simp only [deref, hc] at hok
          rw [D.okR, sr.len] at hok
          exact absurd (of_decide_eq_true hok) hn
  | _ =>
    rw [← sr.len] at hok
    exact r.down x hok
end
/-! ### the first slots -/
theorem env_start {G : Cn} {ι : List Addr} {H : Hp} {ds : List D} {vs : List V} {N : List Str} (r : Reps G ι H ds vs) : EnvR G ι H (ds.map some ++ List.replicate (N.length - ds.length) none) (L2.start N vs) := by
  have hl := r.length
  refine ⟨by simp [L2.start, hl], fun i d h => ?_⟩
  unfold L2.start
  by_cases hi : i < ds.length
  · rw [List.getElem?_append_left (by simpa using hi), List.getElem?_map] at h
    rw [List.getElem?_append_left (by rw [List.length_map, ← hl]; exact hi), List.getElem?_map]
    cases hd : ds[i]? with
    | none => rw [hd] at h; cases h
    | some d' =>
      rw [hd] at h
      simp only [Option.map_some, Option.some.injEq] at h
      subst h
      obtain ⟨v, hv, rv⟩ := r.get hd
      exact ⟨v, by rw [hv]; rfl, rv⟩
  · rw [List.getElem?_append_right (by simp; omega), List.getElem?_replicate] at h
    split at h <;> cases h
/-! ### a program -/
def fnScopeB (N ps : List Str) (sc : Scope) : Bool := (sc.kind == .function) && !sc.isCoroutine && !sc.isGenerator && decide N.Nodup && decide (N.take ps.length = ps) && (ps.all fun x => sc.names.lookup x == some .local || sc.names.lookup x == some .cell) && (sc.names.all fun y => !(y.2 == .free))
theorem fnScope_ok {N ps : List Str} {sc : Scope} (h : fnScopeB N ps sc = true) : FnScope N ps sc := by
  unfold fnScopeB at h
  simp only [Bool.and_eq_true, decide_eq_true_eq, Bool.not_eq_true'] at h
  obtain ⟨⟨⟨⟨⟨⟨h1, h2⟩, h3⟩, h4⟩, h5⟩, h6⟩, h7⟩ := h
  refine ⟨by simpa using h1, h2, h3, h4, h5, fun x hx => ?_, fun y hy => ?_⟩
  · have := List.all_eq_true.mp h6 x hx
    simpa using this
  · have := List.all_eq_true.mp h7 y hy
    simpa using this
def plainArgs : Arguments → Option (List Arg)
  | ⟨[], as, none, [], [], none, []⟩ => if decide (as.map (·.arg)).Nodup then some as else none
  | _ => none
theorem plainArgs_ok {p : Arguments} {as : List Arg} (h : plainArgs p = some as) : p = ⟨[], as, none, [], [], none, []⟩ ∧ (as.map (·.arg)).Nodup := by
  unfold plainArgs at h
  split at h
  · split at h
    · rename_i hn
      simp only [Option.some.injEq] at h
      subst h
      exact ⟨rfl, of_decide_eq_true hn⟩
    · cases h
  · cases h
/-- a def's own check -/
def dfB (T : Tab) (nE nS : Nat) (d : Df) (fd : FD) : Bool := fnScopeB d.N d.ps d.scope && (plainArgs d.params).isSome && decide (fd.npar = d.ps.length) && decide (fd.nloc = d.N.length - d.ps.length)
/-- how the text stands in the heap -/
structure Stands (T : Tab) (ds : List Df) (Pr : Prog) (B : Cn) (P : Program) (w : World) (K : PySem.W.Frag) (mg : Str → Option Value) : Prop where
  hK : K = B.K
  hid : B.hid = []
  nc : Pr.meths.length = B.nc
  fn : ∀ i d, ds[i]? = some d → ∃ qual f fd, FunD K d.name qual d.params d.body d.scope [] [] f fd ∧
    (∀ x, T.fns.lookup x = some i → mg x = some (.ref f)) ∧
    (∀ (c : Nat) (m : Str), (Pr.meths[c]?).bind (lookM m) = some i → Cls K (B.ca c) ∧ Meth K (B.ca c) m f) ∧
    (∀ (x : Str) (c : Nat), T.cls.lookup x = some c → (Pr.meths[c]?).bind (lookM "__init__") = some i → Mk K (B.ca c) f)
  fnr : ∀ x i, T.fns.lookup x = some i → i < ds.length
  mr : ∀ (c : Nat) (m : Str) (i : Nat), (Pr.meths[c]?).bind (lookM m) = some i → i < ds.length
  cls : ∀ (x : Str) (c : Nat), T.cls.lookup x = some c → c < B.nc ∧ mg x = some (.ref (B.ca c)) ∧ ∃ i, (Pr.meths[c]?).bind (lookM "__init__") = some i
  flds : ∀ m, T.flds.contains m = true → ∀ c, c < B.nc → Cls K (B.ca c) ∧ NoAttr K (B.ca c) m
  cst : ∀ x d, T.cst.lookup x = some d → ∃ u v, mg x = some u ∧ RelV v u ∧ ∀ (G : Cn) ι H, G.K = B.K → Rep G ι H d v
  dct : ∀ x kvs, T.dct.lookup x = some kvs → ∃ d, mg x = some (.ref d) ∧ KSays K w d kvs
  blt : ∀ x, T.blt.contains x = true → mg x = none
/-- the own program is the translation -/
structure Trans (T : Tab) (ds : List Df) (Pr : Prog) (nE nS : Nat) : Prop where
  len : Pr.funs.length = ds.length
  fn : ∀ (i : Nat) (d : Df) (fd : FD), ds[i]? = some d → Pr.funs[i]? = some fd → dfB T nE nS d fd = true ∧ trSs T d.N nE nS d.sc d.body = some fd.body
def nfOf (Pr : Prog) (i : Nat) : Nat := ((Pr.funs[i]?).map (·.npar)).getD 0
theorem run_len {Pr : Prog} {n f : Nat} {ds : List D} {S : Store} {r : D × Store} (h : run Pr n f ds S = some r) : ds.length = nfOf Pr f := by
  cases n with
  | zero => cases h
  | succ n =>
    obtain ⟨fd, hfd, h⟩ := bind_some h
    split at h
    · rename_i hl
      unfold nfOf
      rw [hfd, hl]
      rfl
    · cases h
section
variable {T : Tab} {ds : List Df} {Pr : Prog} {B : Cn} {P : Program} {w : World} {K : PySem.W.Frag} {mg : Str → Option Value} {nE nS : Nat}
/-- every def does what the own program says -/
theorem prog_ok (St : Stands T ds Pr B P w K mg) (Tr' : Trans T ds Pr nE nS) (base : Heap) : ∀ (n i : Nat) (d : Df) (qual : Str) (f : Addr) (fd : FuncData), ds[i]? = some d → FunD K d.name qual d.params d.body d.scope [] [] f fd →
    d.ps.length = nfOf Pr i ∧ FnOk P w K mg base CX0 (2 * n) f fd d.ps (SpF B (nfOf Pr i) (run Pr n i)) ∧ Binds K fd d.ps []
  | n, i, d, qual, f, fd, hd, FD => by
    have hi : i < Pr.funs.length := by rw [Tr'.len]; exact (List.getElem?_eq_some_iff.mp hd).1
    obtain ⟨hb, htr⟩ := Tr'.fn i d _ hd (List.getElem?_eq_getElem hi)
    unfold dfB at hb
    simp only [Bool.and_eq_true, decide_eq_true_eq] at hb
    obtain ⟨⟨⟨h1, h2⟩, h3⟩, h4⟩ := hb
    have hnf : d.ps.length = nfOf Pr i := by unfold nfOf; rw [List.getElem?_eq_getElem hi]; exact h3.symm
    obtain ⟨as, has⟩ := Option.isSome_iff_exists.mp h2
    obtain ⟨hp, hnd⟩ := plainArgs_ok has
    have hps : d.ps = as.map (·.arg) := by unfold Df.ps; rw [hp]; rfl
    have hbinds : Binds K fd d.ps [] := by
      refine FD.bindsN fun kV doc pm an cdv ct us hl => ?_
      rw [hp, hps]
      rw [hps] at hl
      exact bind_plain hnd hl
    have hlen : ∀ vs H Q E, SpF B (nfOf Pr i) (run Pr n i) vs H Q E → vs.length = d.ps.length := fun vs H Q E ⟨G, ι, S, xs, x, S', _, _, _, _, r, hl, _, _⟩ => by rw [← r.length, hl, hnf]
    refine ⟨hnf, ?_, hbinds⟩
    cases n with
    | zero =>
      refine ⟨hlen, fun A outer s H args us vs Q E hr e0 hb' hv hs => ?_⟩
      obtain ⟨G, ι, S, xs, x, S', _, _, _, _, r, hl, hrun, _⟩ := hs
      cases hrun
    | succ n =>
      have ih := prog_ok St Tr' base n
      have rec_ : ∀ j dj, ds[j]? = some dj → ∀ qual f fd, FunD K dj.name qual dj.params dj.body dj.scope [] [] f fd → ∀ X : Cx, X.prog = P → X.w = w → X.K = K → X.mg = mg → X.base = base → Fnd X B (2 * n) f (nfOf Pr j) (run Pr n j) := fun j dj hj qual f fd hF X e1 e2 e3 e4 e5 => by
        obtain ⟨q1, q2, q3⟩ := ih j dj qual f fd hj hF
        exact ⟨fd, dj.ps, q1, by rw [e1, e2, e3, e4, e5]; exact q2, by rw [e3]; exact q3⟩
      show FnOk P w K mg base CX0 (2 * n + 1 + 1) f fd d.ps _
      refine FD.ok (fnScope_ok h1) hlen fun cdv A outer s H vs Q E hr hs => ?_
      obtain ⟨G, ι, S, xs, x, S', g1, g2, g3, sr, r, hl, hrun, c⟩ := hs
      obtain ⟨fd', hfd, hrun⟩ := bind_some hrun
      rw [List.getElem?_eq_getElem hi] at hfd
      cases hfd
      rw [if_pos (by rw [h3, hnf]; exact hl)] at hrun
      obtain ⟨res, hex, hleave⟩ := bind_some hrun
      have ok : OkX ⟨T, d.N, B, 2 * n, cal Pr (run Pr n), nfOf Pr⟩ d.sc (cxOf CX0 P w K mg base d.N qual d.scope f cdv A outer s H E).nox := by
        refine ⟨rfl, (fnScope_ok h1).nd, St.hK, rfl, (fnScope_ok h1).kind, rfl, hr, rfl, fun _ _ => rfl, fun y j hy => ?_, fun y cl hy => ?_, fun m hm => ⟨fun cl j hj => ?_⟩, St.flds, St.cst, St.dct, St.blt, fun f ds S r h => run_len h⟩
        · have hj := St.fnr y j hy
          obtain ⟨q, f', fd', hF, m1, _, _⟩ := St.fn j _ (List.getElem?_eq_getElem hj)
          exact ⟨f', m1 y hy, hF.kp, rec_ j _ (List.getElem?_eq_getElem hj) q f' fd' hF _ rfl rfl rfl rfl rfl⟩
        · obtain ⟨c1, c2, j, hj⟩ := St.cls y cl hy
          have hjl := St.mr cl _ j hj
          obtain ⟨q, f', fd', hF, _, _, m3⟩ := St.fn j _ (List.getElem?_eq_getElem hjl)
          exact ⟨c1, c2, f', j, hj, m3 y cl hy hj, rec_ j _ (List.getElem?_eq_getElem hjl) q f' fd' hF _ rfl rfl rfl rfl rfl⟩
        · have hjl := St.mr cl m j hj
          obtain ⟨q, f', fd', hF, _, m2, _⟩ := St.fn j _ (List.getElem?_eq_getElem hjl)
          obtain ⟨k1, k2⟩ := m2 cl m hj
          exact ⟨f', k1, k2, rec_ j _ (List.getElem?_eq_getElem hjl) q f' fd' hF _ rfl rfl rfl rfl rfl⟩
      have body := sts_ok ⟨T, d.N, B, 2 * n, cal Pr (run Pr n), nfOf Pr⟩ nE nS d.sc _ G d.body _ ok ⟨g1, g2, g3⟩ htr
      refine ⟨_, PSs.nox body, ι, _, S, res, ?_, sr, hex, fun σ' H' ι' x' sr' er' => ?_⟩
      · have := env_start (N := d.N) r
        rw [h4]
        have e : d.ps.length = xs.length := by rw [hnf, hl]
        rw [e]
        exact this
      · obtain ⟨fl, e1, S1⟩ := res
        unfold leaveF at hleave
        cases fl with
        | nx =>
          simp only [Option.bind_some] at hleave ⊢
          obtain ⟨d1, hd1, hleave⟩ := bind_some hleave
          split at hleave
          · rename_i hk
            simp only [Option.some.injEq, Prod.mk.injEq] at hleave
            obtain ⟨rfl, rfl⟩ := hleave
            exact c .non H' ι ⟨⟨[], by simp, fun _ h => by simp at h⟩, x'.keep, x'.dom⟩ (leave_sr sr x' sr' hk) (leave_rep sr x' sr' .non hd1)
          · cases hleave
        | rt dv =>
          simp only [Option.bind_some] at hleave ⊢
          obtain ⟨d1, hd1, hleave⟩ := bind_some hleave
          split at hleave
          · rename_i hk
            simp only [Option.some.injEq, Prod.mk.injEq] at hleave
            obtain ⟨rfl, rfl⟩ := hleave
            exact fun v rv => c v H' ι ⟨⟨[], by simp, fun _ h => by simp at h⟩, x'.keep, x'.dom⟩ (leave_sr sr x' sr' hk) (leave_rep sr x' sr' rv hd1)
          · cases hleave
        | bk => simp at hleave
        | ct => simp at hleave
end
end Fw
end
section
set_option Elab.async false
set_option linter.all false
set_option autoImplicit false
set_option maxRecDepth 100000
set_option maxHeartbeats 4000000
/-! Fw19: a program's top stands as its text says. -/
namespace Fw
open PySem PySem.Spec PyProof.Rows L2
/-! ### constants -/
def repB (K : PySem.W.Frag) : Nat → D → Value → Bool
  | 0, _, _ => false
  | n + 1, d, u => match d, u with
    | .non, .none => true
    | .bl b, .bool c => b == c
    | .int i, .int j _ => decide (i = j)
    | .str z, .str y _ => decide (z = y) && strB z
    | .tup ds, .ref a => (match K.lookup a with
      | some ⟨.type c, _, .seq its _, _⟩ => decide (c = "tuple") && decide (its.size ≤ 1000) && repBs n ds its.toList
      | _ => false)
    | _, _ => false
where repBs (n : Nat) : List D → List Value → Bool
  | [], [] => true
  | d :: ds, u :: us => repB K n d u && repBs n ds us
  | _, _ => false
/-- a value that stands for d wherever -/
def Ev' (K : PySem.W.Frag) (d : D) (u : Value) : Prop := ∃ v, RelV v u ∧ ∀ (G : Cn) (ι : List Addr) (H : Hp), G.K = K → Rep G ι H d v
def Evs' (K : PySem.W.Frag) (ds : List D) (us : List Value) : Prop := ∃ vs, Vals vs us ∧ ∀ (G : Cn) (ι : List Addr) (H : Hp), G.K = K → Reps G ι H ds vs
theorem strB_ok {z : Str} (h : strB z = true) : StrG z := by
  unfold strB at h
  rw [Bool.and_eq_true, decide_eq_true_eq] at h
  exact ⟨h.1, Nat.le_trans h.2 (by decide)⟩
theorem repB_ok {K : PySem.W.Frag} : ∀ (n : Nat) (d : D) (u : Value), repB K n d u = true → Ev' K d u
  | 0, d, u, h => by simp [repB] at h
  | n + 1, d, u, h => by
    have many : ∀ (ds : List D) (us : List Value), repB.repBs K n ds us = true → Evs' K ds us := by
      intro ds
      induction ds with
      | nil => intro us h; cases us with | nil => exact ⟨[], .nil, fun _ _ _ _ => .nil⟩ | cons _ _ => cases h
      | cons d ds ih =>
        intro us h
        cases us with
        | nil => cases h
        | cons u us =>
          rw [repB.repBs, Bool.and_eq_true] at h
          obtain ⟨v, h1, h2⟩ := repB_ok n d u h.1
          obtain ⟨vs, h3, h4⟩ := ih us h.2
          exact ⟨v :: vs, .cons h1 h3, fun G ι H e => .cons (h2 G ι H e) (h4 G ι H e)⟩
    unfold repB at h
    split at h
    · exact ⟨.non, rfl, fun _ _ _ _ => .non⟩
    · rename_i b c
      have e : b = c := by simpa using h
      subst e
      exact ⟨.bl b, rfl, fun _ _ _ _ => .bl b⟩
    · rename_i i j t
      have e := of_decide_eq_true h
      subst e
      exact ⟨.int i, ⟨t, rfl⟩, fun _ _ _ _ => .int i⟩
    · rename_i z y t
      rw [Bool.and_eq_true, decide_eq_true_eq] at h
      obtain ⟨e, hz⟩ := h
      subst e
      exact ⟨.str z, ⟨t, rfl⟩, fun _ _ _ _ => .str z (strB_ok hz)⟩
    · rename_i ds a
      split at h
      · rename_i c od its m sl hl
        simp only [Bool.and_eq_true, decide_eq_true_eq] at h
        obtain ⟨⟨rfl, hz⟩, hm⟩ := h
        obtain ⟨vs, h3, h4⟩ := many ds its.toList hm
        have hlen : vs.length = its.size := by rw [h3.length, Array.length_toList]
        refine ⟨.ref a, rfl, fun G ι H e => .tup (.inr ?_) (by rw [hlen]; exact Nat.le_trans hz (by decide)) (h4 G ι H e)⟩
        exact ⟨_, its, m, by rw [e]; exact hl, rfl, rfl, Nat.le_trans hz (by decide), h3⟩
      · cases h
    · cases h
/-! ### written dicts -/
def entB (K : PySem.W.Frag) : List (D × D) → List DictEntry → Bool
  | [], [] => true
  | (.str z, d) :: r, e :: es => (match e.key with
    | .str y _ => decide (z = y) && repB K 6 d e.val && entB K r es
    | _ => false)
  | _, _ => false
theorem entB_ok {K : PySem.W.Frag} : ∀ {kvs : List (D × D)} {es : List DictEntry}, entB K kvs es = true → ∀ z : Str, match lookD (.inr z) kvs with
    | some x => ∃ e, es.find? (fun e => Value.isStrOf z e.key) = some e ∧ Ev' K x e.val
    | none => es.find? (fun e => Value.isStrOf z e.key) = none
  | [], [], _, z => rfl
  | [], _ :: _, h, z => by cases h
  | (k, d) :: r, [], h, z => by cases k <;> cases h
  | (k, d) :: r, e :: es, h, z => by
    cases k with
    | str y =>
      simp only [entB] at h
      split at h
      · rename_i y' t hk
        simp only [Bool.and_eq_true, decide_eq_true_eq] at h
        obtain ⟨⟨rfl, h2⟩, h3⟩ := h
        have ih := entB_ok h3 z
        unfold lookD
        by_cases hz : keyD (.str y) = some (.inr z)
        · rw [if_pos hz]
          have e1 : y = z := by simpa [keyD] using hz
          subst e1
          have hs : Value.isStrOf y e.key = true := by rw [hk, ← PySem.W.isStr_of]; simp [Value.isStr]
          exact ⟨e, by rw [List.find?_cons, hs], repB_ok 6 d e.val h2⟩
        · rw [if_neg hz]
          have ne : ¬ y = z := fun w => hz (by rw [w]; rfl)
          have hs : Value.isStrOf z e.key = false := by rw [hk, ← PySem.W.isStr_of]; simp [Value.isStr, ne]
          cases hl : lookD (.inr z) r with
          | none => rw [hl] at ih; simp only; rw [List.find?_cons, hs]; exact ih
          | some x => rw [hl] at ih; obtain ⟨e', h5, h6⟩ := ih; exact ⟨e', by rw [List.find?_cons, hs]; exact h5, h6⟩
      · cases h
    | _ => cases h
def dctB (K : PySem.W.Frag) (a : Addr) (kvs : List (D × D)) : Bool := match K.lookup a with
  | some ⟨_, _, .dict es _, _⟩ => entB K kvs es.toList
  | _ => false
theorem dctB_ok {K : PySem.W.Frag} {w : World} {a : Addr} {kvs : List (D × D)} {es : Array DictEntry} {n : Nat} (k : KDict K w a es n) (h : dctB K a kvs = true) : ∀ z : Str, match lookD (.inr z) kvs with
    | some x => ∃ u0 v0, findBy Value.isStrOf es z = some u0 ∧ RelV v0 u0 ∧ ∀ (G : Cn) ι H, G.K = K → Rep G ι H x v0
    | none => findBy Value.isStrOf es z = none := by
  unfold dctB at h
  rw [k.at_] at h
  intro z
  have := entB_ok h z
  unfold findBy
  rw [← Array.find?_toList]
  cases hl : lookD (.inr z) kvs with
  | none => rw [hl] at this; simp only at this ⊢; rw [this]; rfl
  | some x =>
    rw [hl] at this
    obtain ⟨e, h1, v, h2, h3⟩ := this
    exact ⟨e.val, v, by rw [h1]; rfl, h2, h3⟩
/-! ### the facts of a program -/
def toDefD (d : Df) : He.DefD := ⟨(match d.cls with | none => (d.name, none) | some c => (c, some d.name)), d.name, (match d.cls with | none => d.name | some c => c ++ ("." : Str) ++ d.name), d.params, d.body, d.scope, [], []⟩
def fnF (ds : List Df) : List He.DefD := ds.map toDefD
def isTupD : D → Bool
  | .tup _ => true
  | _ => false
def faC : Str × D → List He.Fa
  | (x, .int i) => [.int x i]
  | (x, .str z) => [.str x z]
  | (x, _) => [.glo x]
def faF (T : Tab) (ds : List Df) : List He.Fa :=
  (T.fns.map fun p => .glo p.1) ++ ((clsNames ds).flatMap fun c => [.glo c, .cls c, .mkr c] ++ (T.flds.map fun f => .noat c f) ++ (T.meths.filterMap fun m => if ds.any (fun d => d.cls == some c && d.name == m) then some (.meth c m) else none)) ++
  (T.blt.map fun x => .free x) ++ (T.cst.flatMap faC) ++ (T.dct.map fun p => .glo p.1)
def tsF (T : Tab) : List He.Tab := T.dct.map fun p => (fun K => He.ga K p.1, p.2.filterMap fun q => match q.1 with | .str z => some z | _ => none)
def exF (T : Tab) (K : PySem.W.Frag) : Bool := (T.cst.all fun p => match p.2 with
  | .int _ => true
  | .str z => strB z
  | d => repB K 6 d (.ref (He.ga K p.1))) && T.dct.all fun p => dctB K (He.ga K p.1) p.2
/-! ### tables by number -/
theorem numbered_mem {α : Type} : ∀ {l : List α} {n i : Nat} {a : α}, (i, a) ∈ numbered n l → n ≤ i ∧ l[i - n]? = some a
  | [], n, i, a, h => by cases h
  | b :: r, n, i, a, h => by
    rcases List.mem_cons.mp h with e | h
    · cases e; exact ⟨Nat.le_refl _, by simp⟩
    · obtain ⟨h1, h2⟩ := numbered_mem h
      refine ⟨by omega, ?_⟩
      have e : i - n = (i - (n + 1)) + 1 := by omega
      rw [e]
      simpa using h2
theorem lookup_mem' {β : Type} : ∀ {l : List (Str × β)} {x : Str} {b : β}, l.lookup x = some b → (x, b) ∈ l
  | [], x, b, h => by cases h
  | (y, c) :: r, x, b, h => by
    rw [List.lookup_cons] at h
    cases e : x == y with
    | true =>
      rw [e] at h
      cases h
      have : x = y := by simpa using e
      subst this
      exact List.mem_cons_self
    | false =>
      rw [e] at h
      exact List.mem_cons_of_mem _ (lookup_mem' h)
theorem lookM_mem : ∀ {l : List (Str × Nat)} {m : Str} {i : Nat}, lookM m l = some i → (m, i) ∈ l
  | [], m, i, h => by cases h
  | (k, n) :: r, m, i, h => by
    unfold lookM at h
    split at h
    · rename_i e
      cases h
      subst e
      exact List.mem_cons_self
    · exact List.mem_cons_of_mem _ (lookM_mem h)
theorem fns_at {ds : List Df} {x : Str} {i : Nat} (h : (fnsOf ds).lookup x = some i) : ∃ d, ds[i]? = some d ∧ d.cls = none ∧ d.name = x := by
  obtain ⟨p, hp, e⟩ := List.mem_filterMap.mp (lookup_mem' h)
  split at e
  · rename_i hc
    cases e
    obtain ⟨_, h2⟩ := numbered_mem (i := p.1) (a := p.2) hp
    exact ⟨p.2, by simpa using h2, hc, rfl⟩
  · cases e
theorem cls_at {ds : List Df} {x : Str} {c : Nat} (h : (clsOf ds).lookup x = some c) : (clsNames ds)[c]? = some x := by
  obtain ⟨p, hp, e⟩ := List.mem_map.mp (lookup_mem' h)
  cases e
  obtain ⟨_, h2⟩ := numbered_mem (i := p.1) (a := p.2) hp
  simpa using h2
theorem meth_at {ds : List Df} {c : Nat} {m : Str} {i : Nat} (h : ((methsOf ds)[c]?).bind (lookM m) = some i) : ∃ x d, (clsNames ds)[c]? = some x ∧ ds[i]? = some d ∧ d.cls = some x ∧ d.name = m := by
  obtain ⟨l, hl, h⟩ := bind_some h
  unfold methsOf at hl
  rw [List.getElem?_map] at hl
  obtain ⟨x, hx, rfl⟩ := map_some' hl
  obtain ⟨p, hp, e⟩ := List.mem_filterMap.mp (lookM_mem h)
  split at e
  · rename_i hc
    cases e
    obtain ⟨_, h2⟩ := numbered_mem (i := p.1) (a := p.2) hp
    exact ⟨x, p.2, hx, by simpa using h2, hc, rfl⟩
  · cases e
/-- what is asked of a table -/
structure TabOk (T : Tab) (ds : List Df) (Pr : Prog) : Prop where
  fns : T.fns = fnsOf ds
  cls : T.cls = clsOf ds
  flds : True
  meths : T.meths = mthNames ds
  pm : Pr.meths = methsOf ds
  init : (T.cls.all fun p => (((Pr.meths[p.2]?).bind (lookM "__init__")).isSome)) = true
  dk : (T.dct.all fun p => p.2.all fun q => match q.1 with | .str _ => true | _ => false) = true
theorem mem_dedup {x : Str} : ∀ {l acc : List Str}, isDot0 x = false → (x ∈ l ∨ x ∈ acc) → x ∈ dedup l acc
  | [], acc, _, h => by
    rcases h with h | h
    · cases h
    · simpa [dedup] using h
  | y :: r, acc, hd, h => by
    unfold dedup
    split
    · rename_i hc
      rcases h with h | h
      · rcases List.mem_cons.mp h with e | h
        · subst e
          rw [hd, Bool.or_false] at hc
          exact mem_dedup hd (.inr (by simpa using hc))
        · exact mem_dedup hd (.inl h)
      · exact mem_dedup hd (.inr h)
    · rcases h with h | h
      · rcases List.mem_cons.mp h with e | h
        · subst e; exact mem_dedup hd (.inr List.mem_cons_self)
        · exact mem_dedup hd (.inl h)
      · exact mem_dedup hd (.inr (List.mem_cons_of_mem _ h))
theorem stands_ok {T : Tab} {ds : List Df} {Pr : Prog} {P : Program} {w : World} {K : PySem.W.Frag} {h : Heap} {mg : Str → Option Value} {tf : List He.Defn} {hh : Heap} (X : K.In h) (Gm : h.Ns mainGlobals mg) (c : He.SaysX (faF T ds) (fnF ds) (tsF T) tf (exF T) w hh K) (t : TabOk T ds Pr) (hdot : (ds.all fun d => !isDot0 d.name) = true) :
    Stands T ds Pr ⟨K, fun i => He.ga K ((clsNames ds).getD i ""), (clsNames ds).length, []⟩ P w K mg := by
  have cd := c.t.d
  have fact : ∀ {f : He.Fa}, f ∈ faF T ds → f.ok K = true := fun hf => cd.facts hf
  have hml : (methsOf ds).length = (clsNames ds).length := by unfold methsOf; rw [List.length_map]
  have cmem : ∀ {i : Nat} {x : Str}, (clsNames ds)[i]? = some x → x ∈ clsNames ds := fun e => List.mem_of_getElem? e
  have cget : ∀ {i : Nat} {x : Str}, (clsNames ds)[i]? = some x → (clsNames ds).getD i "" = x := fun e => by rw [List.getD_eq_getElem?_getD, e]; rfl
  have fcls : ∀ {x : Str} {f : He.Fa}, x ∈ clsNames ds → f ∈ ([.glo x, .cls x, .mkr x] ++ (T.flds.map fun f => He.Fa.noat x f) ++ (T.meths.filterMap fun m => if ds.any (fun d => d.cls == some x && d.name == m) then some (He.Fa.meth x m) else none)) → f.ok K = true := fun hx hf => by
    refine fact ?_
    unfold faF
    simp only [List.mem_append]
    exact .inl (.inl (.inl (.inr (List.mem_flatMap.mpr ⟨_, hx, by simpa only [List.mem_append] using hf⟩))))
  have hex := c.more
  unfold exF at hex
  rw [Bool.and_eq_true] at hex
  refine ⟨rfl, rfl, by rw [t.pm]; exact hml, fun i d hd => ?_, fun x i hx => ?_, fun cl m i hm => ?_, fun x cl hx => ?_, fun m hm cl hcl => ?_, fun x d hx => ?_, fun x kvs hx => ?_, fun x hx => ?_⟩
  · have hmem : toDefD d ∈ fnF ds := List.mem_map.mpr ⟨d, List.mem_of_getElem? hd, rfl⟩
    obtain ⟨fd, F⟩ := cd.defs hmem
    refine ⟨_, _, fd, F, fun x hx => ?_, fun cl m hm => ?_, fun x cl hx hm => ?_⟩
    · have hmx : He.Fa.glo x ∈ faF T ds := by
        unfold faF
        simp only [List.mem_append]
        exact .inl (.inl (.inl (.inl (List.mem_map.mpr ⟨(x, i), lookup_mem' hx, rfl⟩))))
      rw [t.fns] at hx
      obtain ⟨d', h1, h2, h3⟩ := fns_at hx
      rw [hd] at h1
      cases h1
      rw [He.glo_ok X Gm (fact hmx)]
      unfold toDefD He.fAd
      simp only [h2, h3]
    · rw [t.pm] at hm
      obtain ⟨x, d', h1, h2, h3, h4⟩ := meth_at hm
      rw [hd] at h2
      cases h2
      have hm2 : d.name ∈ T.meths := by
        rw [t.meths]
        unfold mthNames
        refine mem_dedup ?_ (.inl (List.mem_filterMap.mpr ⟨d, List.mem_of_getElem? hd, by rw [h3]; rfl⟩))
        have := List.all_eq_true.mp hdot d (List.mem_of_getElem? hd)
        simpa using this
      have e1 : (⟨K, fun i => He.ga K ((clsNames ds).getD i ""), (clsNames ds).length, []⟩ : Cn).ca cl = He.ga K x := by show He.ga K ((clsNames ds).getD cl "") = _; rw [cget h1]
      rw [e1]
      have f2 : He.fAd K (toDefD d).at_ = He.ma K (He.ga K x) m := by unfold toDefD He.fAd; simp only [h3, h4]
      rw [f2]
      refine ⟨He.cls_ok (fcls (cmem h1) (by simp)), He.meth_ok (fcls (cmem h1) ?_)⟩
      simp only [List.mem_append]
      refine .inr (List.mem_filterMap.mpr ⟨d.name, hm2, ?_⟩)
      rw [if_pos (List.any_eq_true.mpr ⟨d, List.mem_of_getElem? hd, by simp [h3]⟩), h4]
    · rw [t.pm] at hm
      obtain ⟨x', d', h1, h2, h3, h4⟩ := meth_at hm
      rw [hd] at h2
      cases h2
      have e1 : (⟨K, fun i => He.ga K ((clsNames ds).getD i ""), (clsNames ds).length, []⟩ : Cn).ca cl = He.ga K x' := by show He.ga K ((clsNames ds).getD cl "") = _; rw [cget h1]
      rw [e1]
      have f2 : He.fAd K (toDefD d).at_ = He.ma K (He.ga K x') "__init__" := by unfold toDefD He.fAd; simp only [h3, h4]
      rw [f2]
      exact He.mkr_ok (fcls (cmem h1) (by simp))
  · rw [t.fns] at hx
    obtain ⟨d', h1, _⟩ := fns_at hx
    exact (List.getElem?_eq_some_iff.mp h1).1
  · rw [t.pm] at hm
    obtain ⟨x, d', h1, h2, _⟩ := meth_at hm
    exact (List.getElem?_eq_some_iff.mp h2).1
  · have hin := List.all_eq_true.mp t.init (x, cl) (lookup_mem' hx)
    rw [t.cls] at hx
    have h1 := cls_at hx
    refine ⟨(List.getElem?_eq_some_iff.mp h1).1, ?_, Option.isSome_iff_exists.mp hin⟩
    show mg x = some (.ref (He.ga K ((clsNames ds).getD cl "")))
    rw [cget h1]
    exact He.glo_ok X Gm (fcls (cmem h1) (by simp))
  · have h1 : (clsNames ds)[cl]? = some (clsNames ds)[cl] := List.getElem?_eq_getElem hcl
    have e1 : (⟨K, fun i => He.ga K ((clsNames ds).getD i ""), (clsNames ds).length, []⟩ : Cn).ca cl = He.ga K (clsNames ds)[cl] := by show He.ga K ((clsNames ds).getD cl "") = _; rw [cget h1]
    rw [e1]
    refine ⟨He.cls_ok (fcls (cmem h1) (by simp)), He.noat_ok (fcls (cmem h1) ?_)⟩
    simp only [List.mem_append]
    exact .inl (.inr (List.mem_map.mpr ⟨m, by simpa using hm, rfl⟩))
  · have hmem := lookup_mem' hx
    have hall := List.all_eq_true.mp hex.1 (x, d) hmem
    have hf : ∀ f ∈ faC (x, d), He.Fa.ok K f = true := fun f hf => by
      refine fact ?_
      unfold faF
      simp only [List.mem_append]
      exact .inl (.inr (List.mem_flatMap.mpr ⟨(x, d), hmem, hf⟩))
    have glob : He.Fa.glo x ∈ faC (x, d) → repB K 6 d (.ref (He.ga K x)) = true → ∃ u v, mg x = some u ∧ RelV v u ∧ ∀ (G : Cn) ι H, G.K = K → Rep G ι H d v := fun h1 h2 => by
      obtain ⟨v, h3, h4⟩ := repB_ok 6 d _ h2
      exact ⟨_, v, He.glo_ok X Gm (hf _ h1), h3, h4⟩
    cases d with
    | int i =>
      obtain ⟨tk, e⟩ := He.int_ok X Gm (hf (.int x i) (by simp [faC]))
      exact ⟨_, .int i, e, ⟨tk, rfl⟩, fun _ _ _ _ => .int i⟩
    | str z =>
      obtain ⟨tk, e⟩ := He.str_ok X Gm (hf (.str x z) (by simp [faC]))
      exact ⟨_, .str z, e, ⟨tk, rfl⟩, fun _ _ _ _ => .str z (strB_ok hall)⟩
    | _ => exact glob (by simp [faC]) hall
  · have hmem := lookup_mem' hx
    have hall := List.all_eq_true.mp hex.2 (x, kvs) hmem
    have hmx : He.Fa.glo x ∈ faF T ds := by
      unfold faF
      simp only [List.mem_append]
      exact .inr (List.mem_map.mpr ⟨(x, kvs), hmem, rfl⟩)
    obtain ⟨i, hi, ei⟩ := List.mem_iff_getElem.mp hmem
    have ht : (tsF T)[i]? = some (fun K => He.ga K x, kvs.filterMap fun q => match q.1 with | .str z => some z | _ => none) := by
      unfold tsF
      rw [List.getElem?_map, List.getElem?_eq_getElem hi, ei]
      rfl
    obtain ⟨es, n, kd⟩ := c.t.tab i ht
    refine ⟨He.ga K x, He.glo_ok X Gm (fact hmx), es, n, kd, fun z => ?_⟩
    exact dctB_ok kd hall z
  · refine He.free_ok X Gm (fact ?_)
    unfold faF
    simp only [List.mem_append]
    exact .inl (.inl (.inr (List.mem_map.mpr ⟨x, by simpa using hx, rfl⟩)))
end Fw
end
section
set_option Elab.async false
set_option linter.all false
set_option autoImplicit false
set_option maxRecDepth 100000
set_option maxHeartbeats 4000000
/-! Fw20: a law's promise from its truth in the own language. -/
namespace Fw
open PySem PySem.Spec PyProof.Rows L2
theorem trAll_ok {T : Tab} {nE nS : Nat} : ∀ {ds : List Df} {fs : List FD}, trAll T nE nS ds = some fs → fs.length = ds.length ∧ ∀ (i : Nat) (d : Df) (fd : FD), ds[i]? = some d → fs[i]? = some fd → fd.npar = d.ps.length ∧ fd.nloc = d.N.length - d.ps.length ∧ trSs T d.N nE nS d.sc d.body = some fd.body
  | [], fs, h => by
    simp only [trAll, Option.some.injEq] at h
    subst h
    exact ⟨rfl, fun i d fd h => by simp at h⟩
  | d :: ds, fs, h => by
    obtain ⟨b, hb, h⟩ := bind_some h
    obtain ⟨r, hr, rfl⟩ := map_some' h
    obtain ⟨h1, h2⟩ := trAll_ok hr
    refine ⟨by simp [h1], fun i d' fd e1 e2 => ?_⟩
    cases i with
    | zero =>
      simp at e1 e2
      subst e1
      subst e2
      exact ⟨rfl, rfl, hb⟩
    | succ i => exact h2 i d' fd (by simpa using e1) (by simpa using e2)
def scopeB (d : Df) : Bool := fnScopeB d.N d.ps d.scope && (plainArgs d.params).isSome
theorem trans_ok {T : Tab} {ds : List Df} {Pr : Prog} {nE nS : Nat} (h : trAll T nE nS ds = some Pr.funs) (hs : ds.all scopeB = true) : Trans T ds Pr nE nS := by
  obtain ⟨h1, h2⟩ := trAll_ok h
  refine ⟨h1, fun i d fd e1 e2 => ?_⟩
  obtain ⟨k1, k2, k3⟩ := h2 i d fd e1 e2
  have := List.all_eq_true.mp hs d (List.mem_of_getElem? e1)
  unfold scopeB at this
  rw [Bool.and_eq_true] at this
  unfold dfB
  simp only [Bool.and_eq_true, decide_eq_true_eq]
  exact ⟨⟨⟨⟨this.1, this.2⟩, k1⟩, k2⟩, k3⟩
theorem ints_reps {G : Cn} {ι : List Addr} {H : Hp} : ∀ ns : List Int, Reps G ι H (ns.map Fw.D.int) (ns.map V.int)
  | [] => .nil
  | n :: ns => .cons (.int n) (ints_reps ns)
section
variable {T : Tab} {ds : List Df} {Pr : Prog} {B : Cn} {P : Program} {w : World} {K : PySem.W.Frag} {mg : Str → Option Value} {nE nS : Nat}
theorem law_ok (St : Stands T ds Pr B P w K mg) (Tr' : Trans T ds Pr nE nS) (n li : Nat) (d : Df) (x : Str) (fa : Addr) (hd : ds[li]? = some d) (hx : T.fns.lookup d.name = some li) (hm : mg d.name = some (.ref fa)) (hps : d.ps = [x])
    (truth : ∀ ns : List Int, ns.length ≤ 63 → ∃ S', run Pr n li [.inp (ns.map Fw.D.int)] [] = some (.bl true, S')) :
    ∃ (fd : FuncData) (sp : Sp), (∀ (s : Shared) (u : Value), BindsTo s fd ⟨[u], []⟩ [(x, u)]) ∧
      (∀ (H : Hp) (a : Addr) (ns : List Int), ns.length ≤ 63 → Only H → SqL K H a (ns.map V.int) → sp [.ref a] H (fun v _ => v = .bl true) fun _ _ _ => False) ∧
      ∀ base : Heap, K.In base → base.Ns mainGlobals mg → FnOk P w K mg base CX0 (2 * n) fa fd [x] sp := by
  obtain ⟨qual, f, fd, FD, m1, _, _⟩ := St.fn li d hd
  have e := m1 d.name hx
  rw [hm] at e
  cases e
  have hnf : nfOf Pr li = 1 := by
    obtain ⟨h, _⟩ := prog_ok St Tr' default n li d qual fa fd hd FD
    rw [← h, hps]
    rfl
  refine ⟨fd, SpF B 1 (run Pr n li), fun s u => ?_, fun H a ns hl hO hS => ?_, fun base _ _ => ?_⟩
  · obtain ⟨hb, _⟩ := Tr'.fn li d _ hd (List.getElem?_eq_getElem (by rw [Tr'.len]; exact (List.getElem?_eq_some_iff.mp hd).1))
    unfold dfB at hb
    simp only [Bool.and_eq_true] at hb
    obtain ⟨as, has⟩ := Option.isSome_iff_exists.mp hb.1.1.2
    obtain ⟨hp, hnd⟩ := plainArgs_ok has
    have hps' : as.map (·.arg) = [x] := by rw [← hps]; unfold Df.ps; rw [hp]; rfl
    have := FD.bindsA (ps := [x]) (fun kV doc pm an cdv ct us hl => by
      rw [hp, ← hps']
      rw [← hps'] at hl
      exact bind_plain hnd hl) s [u] rfl
    exact this
  · obtain ⟨S', ht⟩ := truth ns hl
    have hi : InpAt B [] H a (ns.map V.int) := by
      rcases hS with h | h
      · exact .inl ⟨h, by simp, by rw [St.hid]; simp⟩
      · right; rw [← St.hK]; exact h
    refine ⟨B, [], [], [.inp (ns.map Fw.D.int)], .bl true, S', rfl, rfl, rfl, ⟨rfl, List.nodup_nil, fun a m => by rw [St.hid] at m; simp at m, fun n c h => by simp at h⟩, .cons (.inp hi ?_ (ints_reps ns)) .nil, rfl, ht, fun v H' ι' x' sr' r' => ?_⟩
    · rw [List.length_map]
      exact Nat.le_trans hl (by decide)
    · cases r'; rfl
  · have := (prog_ok St Tr' base n li d qual fa fd hd FD).2.1
    rw [hnf, hps] at this
    exact this
end
end Fw
end
section
set_option Elab.async false
set_option linter.all false
set_option maxRecDepth 100000
set_option maxHeartbeats 0
namespace H79
open PySem PySem.Spec PyProof.Rows L2 Fw
abbrev R : PySem.W.OpenRow := PySem.W.OpenLaw.row PySem.Challenge.rw_sayagainst_k79_whole_conditions_that_lea
def body : List Stmt := R.prog.main.body
def ds : List Df := dfsOf body
def T : Fw.Tab := tabOf body (cellsOf ["state"] ds)
def Pr : Prog := ⟨(trAll T 60 60 ds).getD [], methsOf ds, 1000⟩
def lawIx : Nat := body.length - 1
def li : Nat := ds.length - 1
def names : List PySem.Str := R.prog.main.scope.names.map (·.1) |>.filter (fun n => n != "law" && n != "__name__")
abbrev hk : PySem.W.Hook := He.hookX 5 (faF T ds) (fnF ds) (tsF T) [] (exF T)
def ob (s : PySem.W.SharedT) : He.AlX := He.obsX 5 (faF T ds) (fnF ds) (tsF T) [] (exF T) (HandSHeadRun.getT s)
theorem ob_eq (s : PySem.W.SharedT) : ob s = hk.obs s.abs := He.obsX_eq (HandSHeadRun.getT_eq s)
theorem run (w : World) : HandSHeadRun.RunEq R (PySem.W.view R.prog [lawIx]) hk ob 3000 names w :=
  PySem.W.byRow2 "special-get-raises" (P := fun w => HandSHeadRun.RunEq R (PySem.W.view R.prog [lawIx]) hk ob 3000 names w) (fun w os => by kernel_rfl) (fun w os => by kernel_rfl) w
end H79
end
section
set_option Elab.async false
set_option linter.all false
set_option maxRecDepth 100000
set_option maxHeartbeats 0
namespace H79
open PySem PySem.Spec PyProof.Rows L2 Fw
theorem tr_some : trAll T 60 60 ds = some Pr.funs := by
  have h : (trAll T 60 60 ds).isSome = true := by kernel_rfl
  obtain ⟨fs, e⟩ := Option.isSome_iff_exists.mp h
  show _ = some ((trAll T 60 60 ds).getD [])
  rw [e]
  rfl
theorem tr_ok : Trans T ds Pr 60 60 := trans_ok tr_some (by kernel_rfl)
theorem tab_ok : TabOk T ds Pr := ⟨rfl, rfl, trivial, rfl, rfl, by kernel_rfl, by kernel_rfl⟩
abbrev Xs : PySem.Str := "script"
theorem lawD : ∃ d, ds[li]? = some d ∧ d.name = ("law" : PySem.Str) ∧ d.ps = [Xs] ∧ T.fns.lookup d.name = some li := by
  have h : ((ds[li]?).any fun d => decide (d.name = ("law" : PySem.Str)) && decide (d.ps = [Xs]) && decide (T.fns.lookup d.name = some li)) = true := by kernel_rfl
  cases e : ds[li]? with
  | none => rw [e] at h; cases h
  | some d =>
    rw [e] at h
    simp only [Option.any_some, Bool.and_eq_true, decide_eq_true_eq] at h
    exact ⟨d, rfl, h.1.1, h.1.2, h.2⟩
end H79
open PySem PySem.W PySem.Calls PyProof.Rows
theorem k79_of (truth : ∀ ns : List Int, ns.length ≤ 63 → ∃ S', Fw.run H79.Pr 30 H79.li [.inp (ns.map Fw.D.int)] [] = some (.bl true, S')) : PySem.Challenge.rw_sayagainst_k79_whole_conditions_that_lea.Holds := by
  w_on; o_law
  refine HandSHeadRun.head_any (r := OpenLaw.row PySem.Challenge.rw_sayagainst_k79_whole_conditions_that_lea) (q := view (OpenLaw.row PySem.Challenge.rw_sayagainst_k79_whole_conditions_that_lea).prog [H79.lawIx]) (H := H79.hk) (ob := H79.ob) (M := 3000) (loose := H79.names) (d := HandSHeadRun.topDef (OpenLaw.row PySem.Challenge.rw_sayagainst_k79_whole_conditions_that_lea).prog H79.lawIx) (kwd := []) H79.ob_eq
    (by kernel_rfl) (fun s => by kernel_rfl) H79.run (by kernel_rfl) (by kernel_rfl) (by kernel_rfl) (by rfl) (by first | assumption | decide +kernel) (by decide +kernel) ⟨rfl, rfl, rfl, rfl, rfl, by decide +kernel⟩ ?hw ?hc
  case hw => w_witness2
  case hc =>
    refine L2.walk_ofE (l := PySem.Challenge.rw_sayagainst_k79_whole_conditions_that_lea) (n := 63) (k := 60) (x := "script") (CX := L2.CX0) rfl (by decide) (by kernel_rfl) ⟨rfl, by decide, by decide⟩ ?F (fun _ _ _ _ z => z)
    intro w mg fa h Y G hmg0
    obtain ⟨K, KX, c⟩ := Y
    have hmg : mg ("law" : PySem.Str) = some (.ref fa) := by
      have e : (HandSHeadRun.topDef (OpenLaw.row PySem.Challenge.rw_sayagainst_k79_whole_conditions_that_lea).prog H79.lawIx).name = ("law" : PySem.Str) := by kernel_rfl
      rw [← e]
      exact hmg0
    have St := Fw.stands_ok (P := (PySem.Challenge.rw_sayagainst_k79_whole_conditions_that_lea).prog) KX G c H79.tab_ok (by kernel_rfl)
    obtain ⟨d, hd, hn, hps, hx⟩ := H79.lawD
    obtain ⟨fd, sp, h1, h2, h3⟩ := Fw.law_ok St H79.tr_ok 30 H79.li d "script" fa hd hx (by rw [hn]; exact hmg) hps truth
    exact ⟨K, fd, sp, KX, h1, h2, h3⟩
end
section
set_option Elab.async false
set_option linter.all false
set_option autoImplicit false
set_option maxRecDepth 10000
set_option maxHeartbeats 1000000
/-! Pl1: how the own language is evaluated. -/
namespace Fw
/-! ### leaving a def -/
theorem okR_py : (∀ (d : D) (b : Nat), d.isPy = true → d.okR b = true) ∧ (∀ (ds : List D) (b : Nat), D.isPys ds = true → D.okRs b ds = true) := by
  have h : ∀ n : Nat, (∀ (d : D) (b : Nat), sizeOf d < n → d.isPy = true → d.okR b = true) ∧ (∀ (ds : List D) (b : Nat), sizeOf ds < n → D.isPys ds = true → D.okRs b ds = true) := by
    intro n
    induction n with
    | zero => exact ⟨fun d b h => absurd h (Nat.not_lt_zero _), fun d b h => absurd h (Nat.not_lt_zero _)⟩
    | succ n ih =>
      refine ⟨fun d b h hp => ?_, fun ds b h hp => ?_⟩
      · cases d with
        | tup xs => rw [D.isPy] at hp; rw [D.okR]; exact ih.2 xs b (by simp at h; omega) hp
        | lst xs => rw [D.isPy] at hp; rw [D.okR]; exact ih.2 xs b (by simp at h; omega) hp
        | non => rfl
        | bl _ => rfl
        | int _ => rfl
        | str _ => rfl
        | _ => simp [D.isPy] at hp
      · cases ds with
        | nil => rfl
        | cons d ds =>
          rw [D.isPys, Bool.and_eq_true] at hp
          rw [D.okRs, ih.1 d b (by simp at h; omega) hp.1, ih.2 ds b (by simp at h; omega) hp.2]
          rfl
  exact ⟨fun d b => (h (sizeOf d + 1)).1 d b (Nat.lt_succ_self _), fun ds b => (h (sizeOf ds + 1)).2 ds b (Nat.lt_succ_self _)⟩
theorem keepOk_app (b : Nat) : ∀ (S T : Store), keepOk b S (S ++ T) = true
  | [], T => rfl
  | c :: S, T => by
    show ((Cell.same c c || Cell.okR b c) && keepOk b S (S ++ T)) = true
    rw [Cell.same_refl, keepOk_app b S T]
    rfl
/-- a plain value leaves -/
theorem leaveF_py {S T : Store} {d : D} {σ : Ev} (h : d.isPy = true) : leaveF S (.rt d, σ, S ++ T) = some (d, S) := by
  have hu : unref S.length (S ++ T) d = d := by cases d <;> first | rfl | (simp [D.isPy] at h)
  unfold leaveF
  simp only [Option.bind_some, leave, hu, okR_py.1 d S.length h, if_true, keepOk_app, List.take_left']
theorem leaveF_py0 {S : Store} {d : D} {σ : Ev} (h : d.isPy = true) : leaveF S (.rt d, σ, S) = some (d, S) := by
  have := leaveF_py (S := S) (T := []) (σ := σ) h
  rwa [List.append_nil] at this
theorem leaveF_nx {S T : Store} {σ : Ev} : leaveF S (.nx, σ, S ++ T) = some (.non, S) := by
  unfold leaveF
  simp only [Option.bind_some, leave, unref, D.okR, if_true, keepOk_app, List.take_left']
theorem leaveF_nx0 {S : Store} {σ : Ev} : leaveF S (.nx, σ, S) = some (.non, S) := by
  have := leaveF_nx (S := S) (T := []) (σ := σ)
  rwa [List.append_nil] at this
theorem run_eq {P : Prog} {n i : Nat} {fd : FD} {args : List D} {S : Store} (h : P.funs[i]? = some fd) (hl : args.length = fd.npar) : run P (n + 1) i args S = (exs (cal P (run P n)) fd.body (args.map some ++ List.replicate fd.nloc none) S).bind (leaveF S) := by
  unfold run
  rw [h]
  simp only [Option.bind_some, if_pos hl]
/-! ### rows -/
theorem compL_flat {g : Store → Bool} {f : D → Store → Option (List D × Store)} {S : Store} (h : D → List D) (hg : g S = true) : ∀ {xs : List D}, (∀ x ∈ xs, f x S = some (h x, S)) → compL g f xs S = some (xs.flatMap h, S)
  | [], _ => rfl
  | x :: xs, hx => by
    unfold compL
    rw [hx x List.mem_cons_self]
    simp only [Option.bind_some, hg, if_true]
    rw [compL_flat h hg fun y hy => hx y (List.mem_cons_of_mem _ hy)]
    simp
/-- one item a turn -/
theorem compL_map {g : Store → Bool} {f : D → Store → Option (List D × Store)} {S : Store} (h : D → D) (hg : g S = true) {xs : List D} (hx : ∀ x ∈ xs, f x S = some ([h x], S)) : compL g f xs S = some (xs.map h, S) := by
  rw [compL_flat (fun x => [h x]) hg hx]
  congr 2
  clear hx
  induction xs with
  | nil => rfl
  | cons x xs ih => rw [List.flatMap_cons, ih]; rfl
/-- with a test -/
theorem compL_filter {g : Store → Bool} {f : D → Store → Option (List D × Store)} {S : Store} (p : D → Bool) (h : D → D) (hg : g S = true) {xs : List D} (hx : ∀ x ∈ xs, f x S = some (if p x then [h x] else [], S)) : compL g f xs S = some ((xs.filter p).map h, S) := by
  rw [compL_flat (fun x => if p x then [h x] else []) hg hx]
  congr 2
  clear hx
  induction xs with
  | nil => rfl
  | cons x xs ih =>
    rw [List.flatMap_cons, List.filter_cons, ih]
    cases p x <;> simp
/-- over coded items -/
theorem compL_mapc {α : Type} {g : Store → Bool} {f : D → Store → Option (List D × Store)} {S : Store} (c : α → D) (h : α → D) (hg : g S = true) {xs : List α} (hx : ∀ x ∈ xs, f (c x) S = some ([h x], S)) : compL g f (xs.map c) S = some (xs.map h, S) := by
  induction xs with
  | nil => rfl
  | cons x xs ih =>
    rw [List.map_cons]
    unfold compL
    rw [hx x List.mem_cons_self]
    simp only [Option.bind_some, hg, if_true]
    rw [ih fun y hy => hx y (List.mem_cons_of_mem _ hy)]
    simp
theorem compL_filterc {α : Type} {g : Store → Bool} {f : D → Store → Option (List D × Store)} {S : Store} (c : α → D) (p : α → Bool) (h : α → D) (hg : g S = true) {xs : List α} (hx : ∀ x ∈ xs, f (c x) S = some (if p x then [h x] else [], S)) : compL g f (xs.map c) S = some ((xs.filter p).map h, S) := by
  induction xs with
  | nil => rfl
  | cons x xs ih =>
    rw [List.map_cons]
    unfold compL
    rw [hx x List.mem_cons_self]
    simp only [Option.bind_some, hg, if_true]
    rw [ih fun y hy => hx y (List.mem_cons_of_mem _ hy), List.filter_cons]
    cases p x <;> simp
theorem compL_flatc {α : Type} {g : Store → Bool} {f : D → Store → Option (List D × Store)} {S : Store} (c : α → D) (h : α → List D) (hg : g S = true) {xs : List α} (hx : ∀ x ∈ xs, f (c x) S = some (h x, S)) : compL g f (xs.map c) S = some (xs.flatMap h, S) := by
  induction xs with
  | nil => rfl
  | cons x xs ih =>
    rw [List.map_cons]
    unfold compL
    rw [hx x List.mem_cons_self]
    simp only [Option.bind_some, hg, if_true]
    rw [ih fun y hy => hx y (List.mem_cons_of_mem _ hy)]
    simp
/-- a loop: what holds at each turn -/
theorem forL_inv {α : Type} {g : Store → Bool} {t : T} {body : Ev → Store → Res} (c : α → D) (I : List α → Ev → Store → Prop) (Q : Res → Prop) :
    ∀ {xs : List α} {σ : Ev} {S : Store}, I xs σ S → (∀ x r σ S, I (x :: r) σ S → ∃ σ1, bindT t (c x) σ = some σ1 ∧ ((∃ σ2 S2, (body σ1 S = some (.nx, σ2, S2) ∨ body σ1 S = some (.ct, σ2, S2)) ∧ g S2 = true ∧ I r σ2 S2) ∨ (∃ σ2 S2, body σ1 S = some (.bk, σ2, S2) ∧ Q (some (.nx, σ2, S2))) ∨ ∃ d σ2 S2, body σ1 S = some (.rt d, σ2, S2) ∧ Q (some (.rt d, σ2, S2)))) →
      (∀ σ S, I [] σ S → Q (some (.nx, σ, S))) → Q (forL g t body (xs.map c) σ S)
  | [], σ, S, h, _, he => he σ S h
  | x :: xs, σ, S, h, hs, he => by
    rw [List.map_cons]
    unfold forL
    obtain ⟨σ1, h1, h2⟩ := hs x xs σ S h
    rw [h1]
    simp only [Option.bind_some]
    rcases h2 with ⟨σ2, S2, h3, h4, h5⟩ | ⟨σ2, S2, h3, h4⟩ | ⟨d, σ2, S2, h3, h4⟩
    · rcases h3 with h3 | h3 <;> rw [h3] <;> simp only [Option.bind_some, h4, if_true] <;> exact forL_inv c I Q h5 hs he
    · rw [h3]; exact h4
    · rw [h3]; exact h4
end Fw
end
section
set_option Elab.async false
set_option linter.all false
set_option autoImplicit false
set_option maxRecDepth 10000
set_option maxHeartbeats 1000000
/-! Pl2: data compared. -/
namespace Fw
open PySem
mutual
def D.noI : D → Bool
  | .int _ => false
  | .tup xs => D.noIs xs
  | .lst xs => D.noIs xs
  | _ => true
def D.noIs : List D → Bool
  | [] => true
  | x :: xs => D.noI x && D.noIs xs
end
mutual
def D.noB : D → Bool
  | .bl _ => false
  | .tup xs => D.noBs xs
  | .lst xs => D.noBs xs
  | _ => true
def D.noBs : List D → Bool
  | [] => true
  | x :: xs => D.noB x && D.noBs xs
end
mutual
theorem eqv_noB : ∀ (d e : D), d.isPy = true → e.isPy = true → d.noB = true → e.noB = true → PyData.eqv d.py e.py = D.same d e
  | .non, e, h1, h2, h3, h4 => by cases e <;> simp [D.isPy, D.noB] at h2 h4 <;> simp [D.py, PyData.eqv, D.same]
  | .bl b, e, h1, h2, h3, h4 => by simp [D.noB] at h3
  | .int b, e, h1, h2, h3, h4 => by cases e <;> simp [D.isPy, D.noB] at h2 h4 <;> simp [D.py, PyData.eqv, D.same]
  | .str b, e, h1, h2, h3, h4 => by
    cases e <;> simp [D.isPy, D.noB] at h2 h4 <;> simp [D.py, PyData.eqv, D.same]
    rename_i z
    by_cases q : b = z <;> simp [q]
  | .tup xs, e, h1, h2, h3, h4 => by
    cases e <;> simp [D.isPy, D.noB] at h1 h2 h3 h4 <;> simp [D.py, PyData.eqv, D.same]
    exact eqvs_noB _ _ h1 h2 h3 h4
  | .lst xs, e, h1, h2, h3, h4 => by
    cases e <;> simp [D.isPy, D.noB] at h1 h2 h3 h4 <;> simp [D.py, PyData.eqv, D.same]
    exact eqvs_noB _ _ h1 h2 h3 h4
  | .dic _, e, h1, _, _, _ => by simp [D.isPy] at h1
  | .set _, e, h1, _, _, _ => by simp [D.isPy] at h1
  | .ref _, e, h1, _, _, _ => by simp [D.isPy] at h1
  | .inp _, e, h1, _, _, _ => by simp [D.isPy] at h1
theorem eqvs_noB : ∀ (xs ys : List D), D.isPys xs = true → D.isPys ys = true → D.noBs xs = true → D.noBs ys = true → PyData.eqvAll (D.pys xs) (D.pys ys) = D.sames xs ys
  | [], [], _, _, _, _ => by simp [D.pys, PyData.eqvAll, D.sames]
  | [], y :: ys, _, _, _, _ => by simp [D.pys, PyData.eqvAll, D.sames]
  | x :: xs, [], _, _, _, _ => by simp [D.pys, PyData.eqvAll, D.sames]
  | x :: xs, y :: ys, h1, h2, h3, h4 => by
    simp only [D.isPys, D.noBs, Bool.and_eq_true] at h1 h2 h3 h4
    simp only [D.pys, PyData.eqvAll, D.sames]
    rw [eqv_noB x y h1.1 h2.1 h3.1 h4.1, eqvs_noB xs ys h1.2 h2.2 h3.2 h4.2]
end
mutual
theorem eqv_noI : ∀ (d e : D), d.isPy = true → e.isPy = true → d.noI = true → e.noI = true → PyData.eqv d.py e.py = D.same d e
  | .non, e, h1, h2, h3, h4 => by cases e <;> simp [D.isPy, D.noI] at h2 h4 <;> simp [D.py, PyData.eqv, D.same]
  | .int b, e, h1, h2, h3, h4 => by simp [D.noI] at h3
  | .bl b, e, h1, h2, h3, h4 => by cases e <;> simp [D.isPy, D.noI] at h2 h4 <;> simp [D.py, PyData.eqv, D.same]
  | .str b, e, h1, h2, h3, h4 => by
    cases e <;> simp [D.isPy, D.noI] at h2 h4 <;> simp [D.py, PyData.eqv, D.same]
    rename_i z
    by_cases q : b = z <;> simp [q]
  | .tup xs, e, h1, h2, h3, h4 => by
    cases e <;> simp [D.isPy, D.noI] at h1 h2 h3 h4 <;> simp [D.py, PyData.eqv, D.same]
    exact eqvs_noI _ _ h1 h2 h3 h4
  | .lst xs, e, h1, h2, h3, h4 => by
    cases e <;> simp [D.isPy, D.noI] at h1 h2 h3 h4 <;> simp [D.py, PyData.eqv, D.same]
    exact eqvs_noI _ _ h1 h2 h3 h4
  | .dic _, e, h1, _, _, _ => by simp [D.isPy] at h1
  | .set _, e, h1, _, _, _ => by simp [D.isPy] at h1
  | .ref _, e, h1, _, _, _ => by simp [D.isPy] at h1
  | .inp _, e, h1, _, _, _ => by simp [D.isPy] at h1
theorem eqvs_noI : ∀ (xs ys : List D), D.isPys xs = true → D.isPys ys = true → D.noIs xs = true → D.noIs ys = true → PyData.eqvAll (D.pys xs) (D.pys ys) = D.sames xs ys
  | [], [], _, _, _, _ => by simp [D.pys, PyData.eqvAll, D.sames]
  | [], y :: ys, _, _, _, _ => by simp [D.pys, PyData.eqvAll, D.sames]
  | x :: xs, [], _, _, _, _ => by simp [D.pys, PyData.eqvAll, D.sames]
  | x :: xs, y :: ys, h1, h2, h3, h4 => by
    simp only [D.isPys, D.noIs, Bool.and_eq_true] at h1 h2 h3 h4
    simp only [D.pys, PyData.eqvAll, D.sames]
    rw [eqv_noI x y h1.1 h2.1 h3.1 h4.1, eqvs_noI xs ys h1.2 h2.2 h3.2 h4.2]
end
instance : DecidableEq D := fun a b => if h : D.same a b = true then isTrue (D.same_eq a b h) else isFalse fun e => h (e ▸ D.same_refl a)
theorem same_dec (a b : D) : D.same a b = decide (a = b) := by
  by_cases h : a = b
  · subst h; simp [D.same_refl]
  · have : D.same a b = false := by
      cases e : D.same a b with
      | false => rfl
      | true => exact absurd (D.same_eq a b e) h
    simp [h, this]
/-- data of texts and numbers -/
structure Sx (d : D) : Prop where
  py : d.isPy = true
  nb : d.noB = true
  dp : d.dep ≤ 60
theorem Sx.eqD {a b : D} (ha : Sx a) (hb : Sx b) : Fw.eqD a b = some (decide (a = b)) := by
  unfold Fw.eqD
  have h1 := ha.dp
  simp only [ha.py, hb.py, Bool.true_and, show decide (a.dep ≤ 64) = true from decide_eq_true (by omega), Bool.true_or, if_true, eqv_noB a b ha.py hb.py ha.nb hb.nb, same_dec]
theorem Sx.str (s : Str) : Sx (.str s) := ⟨rfl, rfl, by simp [D.dep, D.py, PyData.depth]⟩
theorem Sx.int (i : Int) : Sx (.int i) := ⟨rfl, rfl, by simp [D.dep, D.py, PyData.depth]⟩
theorem isPys_of {xs : List D} (h : ∀ x ∈ xs, x.isPy = true) : D.isPys xs = true := by
  rw [D.isPys_all]; exact List.all_eq_true.mpr h
theorem noBs_of {xs : List D} (h : ∀ x ∈ xs, x.noB = true) : D.noBs xs = true := by
  induction xs with
  | nil => rfl
  | cons x xs ih => rw [D.noBs, h x List.mem_cons_self, ih fun y hy => h y (List.mem_cons_of_mem _ hy)]; rfl
theorem noIs_of {xs : List D} (h : ∀ x ∈ xs, x.noI = true) : D.noIs xs = true := by
  induction xs with
  | nil => rfl
  | cons x xs ih => rw [D.noIs, h x List.mem_cons_self, ih fun y hy => h y (List.mem_cons_of_mem _ hy)]; rfl
theorem depthAll_leP {xs : List D} {n : Nat} (h : ∀ x ∈ xs, x.dep ≤ n) : PyData.depthAll (D.pys xs) ≤ n := by
  induction xs with
  | nil => simp [D.pys, PyData.depthAll]
  | cons x xs ih =>
    rw [D.pys, PyData.depthAll]
    have h1 := h x List.mem_cons_self
    have h2 := ih fun y hy => h y (List.mem_cons_of_mem _ hy)
    unfold D.dep at h1
    omega
theorem dep_tup {xs : List D} {n : Nat} (h : ∀ x ∈ xs, x.dep ≤ n) : (D.tup xs).dep ≤ n + 1 := by
  unfold D.dep
  rw [D.py, PyData.depth]
  have := depthAll_leP h
  omega
theorem dep_lst {xs : List D} {n : Nat} (h : ∀ x ∈ xs, x.dep ≤ n) : (D.lst xs).dep ≤ n + 1 := by
  unfold D.dep
  rw [D.py, PyData.depth]
  have := depthAll_leP h
  omega
theorem dep_str (s : Str) : (D.str s).dep = 0 := by simp [D.dep, D.py, PyData.depth]
theorem dep_int (s : Int) : (D.int s).dep = 0 := by simp [D.dep, D.py, PyData.depth]
theorem dep_bl (s : Bool) : (D.bl s).dep = 0 := by simp [D.dep, D.py, PyData.depth]
theorem Sx.tup {xs : List D} (h : ∀ x ∈ xs, Sx x) (hd : (D.tup xs).dep ≤ 60) : Sx (.tup xs) :=
  ⟨by rw [D.isPy]; exact isPys_of fun x hx => (h x hx).py, by rw [D.noB]; exact noBs_of fun x hx => (h x hx).nb, hd⟩
theorem Sx.lst {xs : List D} (h : ∀ x ∈ xs, Sx x) (hd : (D.lst xs).dep ≤ 60) : Sx (.lst xs) :=
  ⟨by rw [D.isPy]; exact isPys_of fun x hx => (h x hx).py, by rw [D.noB]; exact noBs_of fun x hx => (h x hx).nb, hd⟩
theorem Sx.strs (xs : List Str) : Sx (.tup (xs.map .str)) :=
  .tup (fun x hx => by obtain ⟨s, _, rfl⟩ := List.mem_map.mp hx; exact .str s) (Nat.le_trans (dep_tup (n := 0) fun x hx => by obtain ⟨s, _, rfl⟩ := List.mem_map.mp hx; simp [dep_str]) (by omega))
theorem strs_inj {xs ys : List Str} : (D.tup (xs.map .str) = D.tup (ys.map .str)) ↔ xs = ys := by
  constructor
  · intro h
    simp only [D.tup.injEq] at h
    have h2 := congrArg (List.map fun d => match d with | D.str z => z | _ => (⟨#[]⟩ : Str)) h
    simpa [List.map_map, Function.comp_def] using h2
  · intro h; rw [h]
/-- x in row -/
theorem memD_sx {x : D} {ys : List D} (hx : Sx x) (hy : ∀ y ∈ ys, Sx y) : memD x ys = some (decide (x ∈ ys)) := by
  unfold memD
  have h1 := hx.dp
  have h2 : D.isPys ys = true := isPys_of fun y h => (hy y h).py
  simp only [hx.py, h2, Bool.true_and, show decide (x.dep ≤ 63) = true from decide_eq_true (by omega), Bool.true_or, if_true, Option.some.injEq]
  clear h2
  induction ys with
  | nil => simp
  | cons y ys ih =>
    rw [List.any_cons, ih fun z hz => hy z (List.mem_cons_of_mem _ hz), eqv_noB y x (hy y List.mem_cons_self).py hx.py (hy y List.mem_cons_self).nb hx.nb, same_dec]
    by_cases e : y = x
    · subst e; simp
    · have : ¬ x = y := fun w => e w.symm
      simp [e, this]
/-! ### order -/
def lexR (lt : Str → Str → Bool) : List Str → List Str → Bool
  | [], [] => false
  | [], _ :: _ => true
  | _ :: _, [] => false
  | x :: xs, y :: ys => if x = y then lexR lt xs ys else lt x y
def sLt (x y : Str) : Bool := PyProof.Rows.itemOrd.blt (.inr x.cps.toList) (.inr y.cps.toList)
theorem toks_strs : ∀ (xs ys : List Str), PyProof.Rows.lexLt PyProof.Rows.itemOrd (W.keyToksAll (xs.map PyData.str)) (W.keyToksAll (ys.map PyData.str)) = lexR sLt xs ys
  | [], [] => by rw [List.map_nil, W.keyToksAll, PyProof.Rows.lex_self]; rfl
  | [], y :: ys => by
    rw [List.map_nil, List.map_cons, W.keyToksAll, W.toks_all_cons, PyProof.Rows.lex_diff (by simp)]
    rfl
  | x :: xs, [] => by
    rw [List.map_nil, List.map_cons, W.keyToksAll, W.toks_all_cons, PyProof.Rows.lex_diff (by simp)]
    rfl
  | x :: xs, y :: ys => by
    rw [List.map_cons, List.map_cons, W.toks_all_cons, W.toks_all_cons, PyProof.Rows.lex_self, W.keyToks, W.keyToks]
    show PyProof.Rows.lexLt PyProof.Rows.itemOrd (.inr x.cps.toList :: W.keyToksAll (xs.map PyData.str)) (.inr y.cps.toList :: W.keyToksAll (ys.map PyData.str)) = _
    unfold lexR
    by_cases e : x = y
    · subst e
      rw [PyProof.Rows.lex_self, if_pos rfl, toks_strs xs ys]
    · rw [if_neg e, PyProof.Rows.lex_diff (fun h => e (by
        have h2 : x.cps.toList = y.cps.toList := by simpa using h
        exact W.str_of_cps h2))]
      rfl
theorem pys_strs (xs : List Str) : D.pys (xs.map .str) = xs.map PyData.str := by
  rw [D.pys_map, List.map_map]; rfl
theorem dle_strs (xs ys : List Str) : dle (.tup (xs.map .str)) (.tup (ys.map .str)) = !lexR sLt ys xs := by
  unfold dle W.dataLt
  rw [D.py, D.py, W.keyToks, W.keyToks, pys_strs, pys_strs, toks_strs]
theorem alike_strs : ∀ (xs ys : List Str), W.alikeAll (xs.map PyData.str) (ys.map PyData.str) = true
  | [], [] => by simp [W.alikeAll]
  | [], _ :: _ => by simp [W.alikeAll]
  | _ :: _, [] => by simp [W.alikeAll]
  | x :: xs, y :: ys => by
    rw [List.map_cons, List.map_cons, W.alikeAll, W.alike, alike_strs xs ys]; rfl
/-- rows of texts sorted -/
theorem sortD_strs (rows : List (List Str)) : sortD (rows.map fun r => D.tup (r.map .str)) = some ((rows.map fun r => D.tup (r.map .str)).mergeSort dle) := by
  unfold sortD
  have sx : ∀ x ∈ rows.map (fun r => D.tup (r.map .str)), ∃ r : List Str, x = D.tup (r.map .str) := fun x hx => by
    obtain ⟨r, _, rfl⟩ := List.mem_map.mp hx; exact ⟨r, rfl⟩
  have h1 : D.isPys (rows.map fun r => D.tup (r.map .str)) = true := isPys_of fun x hx => by obtain ⟨r, rfl⟩ := sx x hx; exact (Sx.strs r).py
  have h2 : (D.lst (rows.map fun r => D.tup (r.map .str))).dep ≤ 64 := Nat.le_trans (dep_lst (n := 60) fun x hx => by obtain ⟨r, rfl⟩ := sx x hx; exact (Sx.strs r).dp) (by omega)
  have h3 : alikes (rows.map fun r => D.tup (r.map .str)) = true := by
    unfold alikes
    refine List.all_eq_true.mpr fun x hx => List.all_eq_true.mpr fun y hy => ?_
    obtain ⟨r, rfl⟩ := sx x hx
    obtain ⟨q, rfl⟩ := sx y hy
    rw [D.py, D.py, W.alike, pys_strs, pys_strs, alike_strs]
  have h4 : (rows.map fun r => D.tup (r.map .str)).all isTup = true := List.all_eq_true.mpr fun x hx => by obtain ⟨r, rfl⟩ := sx x hx; rfl
  rw [h1, h3, h4, decide_eq_true h2]
  simp
theorem sortD_sorted {rows : List (List Str)} (h : rows.Pairwise fun a b => lexR sLt b a = false) : sortD (rows.map fun r => D.tup (r.map .str)) = some (rows.map fun r => D.tup (r.map .str)) := by
  rw [sortD_strs, List.mergeSort_of_pairwise]
  rw [List.pairwise_map]
  exact h.imp fun {a b} e => by rw [dle_strs, e]; rfl
end Fw
end
section
set_option Elab.async false
set_option linter.all false
set_option autoImplicit false
set_option maxRecDepth 10000
set_option maxHeartbeats 1000000
/-! Pl3: operations, one by one. -/
namespace Fw
open PySem
section
variable (S : Store) (a b : Str) (i j : Int) (k : Bool) (xs ys : List D) (kvs : List (D × D)) (x y : D)
theorem de_str : deref S (.str a) = .str a := rfl
theorem de_int : deref S (.int i) = .int i := rfl
theorem de_bl : deref S (.bl k) = .bl k := rfl
theorem de_non : deref S .non = .non := rfl
theorem de_tup : deref S (.tup xs) = .tup xs := rfl
theorem de_lst : deref S (.lst xs) = .lst xs := rfl
theorem de_dic : deref S (.dic kvs) = .dic kvs := rfl
theorem de_inp : deref S (.inp xs) = .inp xs := rfl
theorem eqD_str : eqD (.str a) (.str b) = some (decide (a = b)) := by
  rw [Sx.eqD (.str a) (.str b)]; simp
theorem eqD_int : eqD (.int i) (.int j) = some (decide (i = j)) := by
  rw [Sx.eqD (.int i) (.int j)]; simp
theorem eqD_bl (a b : Bool) : eqD (.bl a) (.bl b) = some (decide (a = b)) := by
  unfold eqD
  simp only [D.isPy, Bool.and_self, dep_bl, D.py, PyData.eqv]
  cases a <;> cases b <;> rfl
theorem eqD_strs (a b : List Str) : eqD (.tup (a.map .str)) (.tup (b.map .str)) = some (decide (a = b)) := by
  rw [Sx.eqD (.strs a) (.strs b)]
  congr 1
  rw [decide_eq_decide]
  exact strs_inj
theorem memD_strs (x : Str) (ys : List Str) : memD (.str x) (ys.map .str) = some (decide (x ∈ ys)) := by
  rw [memD_sx (.str x) fun y hy => by obtain ⟨s, _, rfl⟩ := List.mem_map.mp hy; exact .str s]
  simp
theorem bin_eq : bin .eq x y = (eqD x y).map .bl := by cases x <;> cases y <;> rfl
theorem bin_ne : bin .ne x y = (eqD x y).map fun b => .bl (!b) := by cases x <;> cases y <;> rfl
theorem bin_inn_tup : bin .inn x (.tup ys) = (memD x ys).map .bl := by cases x <;> rfl
theorem bin_inn_lst : bin .inn x (.lst ys) = (memD x ys).map .bl := by cases x <;> rfl
theorem bin_notin_tup : bin .notin x (.tup ys) = (memD x ys).map fun b => .bl (!b) := by cases x <;> rfl
theorem bin_notin_lst : bin .notin x (.lst ys) = (memD x ys).map fun b => .bl (!b) := by cases x <;> rfl
theorem bin_inn_str : bin .inn (.str a) (.str b) = some (.bl (strIn a b)) := rfl
theorem bin_notin_str : bin .notin (.str a) (.str b) = some (.bl (!strIn a b)) := rfl
theorem bin_add_int : bin .add (.int i) (.int j) = some (.int (i + j)) := rfl
theorem bin_sub_int : bin .sub (.int i) (.int j) = some (.int (i - j)) := rfl
theorem bin_add_tup : bin .add (.tup xs) (.tup ys) = if xs.length + ys.length ≤ LIM then some (.tup (xs ++ ys)) else none := rfl
theorem bin_add_lst : bin .add (.lst xs) (.lst ys) = if xs.length + ys.length ≤ LIM then some (.lst (xs ++ ys)) else none := rfl
theorem bin_lt_int : bin .lt (.int i) (.int j) = some (.bl (decide (i < j))) := rfl
theorem bin_gt_int : bin .gt (.int i) (.int j) = some (.bl (decide (j < i))) := rfl
theorem bin_le_int : bin .le (.int i) (.int j) = some (.bl (decide (i ≤ j))) := rfl
theorem bin_ge_int : bin .ge (.int i) (.int j) = some (.bl (decide (j ≤ i))) := rfl
theorem bin_band : bin .band (.int i) (.int j) = some (.int (PySem.Builtin.bitAnd i j)) := rfl
theorem bin_bor : bin .bor (.int i) (.int j) = some (.int (PySem.Builtin.bitOr i j)) := rfl
theorem bin_shl : bin .shl (.int i) (.int j) = if decide (0 ≤ j) && decide (j ≤ 1000000) && decide (i.natAbs < 2 ^ 64) then some (.int (i * 2 ^ j.toNat)) else none := rfl
theorem bin_shr : bin .shr (.int i) (.int j) = if decide (0 ≤ j) then some (.int (i / 2 ^ j.toNat)) else none := rfl
theorem bin_mod : bin .mod (.int i) (.int j) = if decide (j ≠ 0) then some (.int (i.fmod j)) else none := rfl
theorem bin_fdiv : bin .fdiv (.int i) (.int j) = if decide (j ≠ 0) && decide (j.natAbs < 1073741824) then some (.int (i.fdiv j)) else none := rfl
theorem bin_mul_int : bin .mul (.int i) (.int j) = if (decide (-(2 ^ 64) < i) && decide (i < 2 ^ 64)) || (decide (-(2 ^ 64) < j) && decide (j < 2 ^ 64)) then some (.int (i * j)) else none := rfl
theorem bin_mul_lst : bin .mul (.lst xs) (.int i) = if decide (-(2 ^ 63) ≤ i) && decide (i < 2 ^ 63) && decide (xs.length * i.toNat ≤ LIM) then some (.lst (rep i.toNat xs)) else none := rfl
theorem bin_mul_tup : bin .mul (.tup xs) (.int i) = if !xs.isEmpty && decide (0 ≤ i) && decide (i ≤ 1000) && decide (xs.length ≤ 1000) then some (.tup (rep i.toNat xs)) else none := rfl
theorem un_not : un .not (.bl k) = some (.bl (!k)) := rfl
theorem un_inv : un .inv (.int i) = some (.int (PySem.Builtin.bitNot i)) := rfl
theorem idx_tup : idx (.tup xs) (.int i) = L2.atI xs i := rfl
theorem idx_lst : idx (.lst xs) (.int i) = L2.atI xs i := rfl
theorem idx_str : idx (.str a) (.int i) = (L2.atI a.cps.toList i).map fun c => .str ⟨#[c]⟩ := rfl
theorem idx_dic : idx (.dic kvs) x = (keyD x).bind fun k => lookD k kvs := by cases x <;> rfl
theorem slc_tup (lo hi : Option Int) : slc (.tup xs) lo hi = some (.tup (cut xs lo hi)) := rfl
theorem slc_lst (lo hi : Option Int) : slc (.lst xs) lo hi = some (.lst (cut xs lo hi)) := rfl
theorem slc_inp (lo hi : Option Int) : slc (.inp xs) lo hi = some (.lst (cut xs lo hi)) := rfl
theorem prim_len_tup : prim .len [.tup xs] = some (.int xs.length) := rfl
theorem prim_len_lst : prim .len [.lst xs] = some (.int xs.length) := rfl
theorem prim_len_str : prim .len [.str a] = some (.int a.length) := rfl
theorem prim_int_int : prim .int [.int i] = some (.int i) := rfl
theorem prim_int_bl : prim .int [.bl k] = some (.int (if k then 1 else 0)) := rfl
theorem prim_tuple_lst : prim .tuple [.lst xs] = some (.tup xs) := rfl
theorem prim_tuple_tup : prim .tuple [.tup xs] = some (.tup xs) := rfl
theorem prim_list_lst : prim .list [.lst xs] = some (.lst xs) := rfl
theorem prim_list_tup : prim .list [.tup xs] = some (.lst xs) := rfl
theorem prim_all : prim .all [.lst xs] = (boolsOf xs).map fun bs => .bl (bs.all id) := rfl
theorem prim_any : prim .any [.lst xs] = (boolsOf xs).map fun bs => .bl (bs.any id) := rfl
theorem prim_sum : prim .sum [.lst xs] = (intsOf xs).map fun is => .int is.sum := rfl
theorem prim_max2 : prim .max2 [.int i, .int j] = some (.int (if j > i then j else i)) := rfl
theorem prim_sorted : prim .sorted [.lst xs] = (sortD xs).map .lst := rfl
theorem prim_lr : prim .listRange [.int i, .int j] = if okRng i j then some (.lst (rng i j)) else none := rfl
theorem prim_abs : prim .abs [.int i] = some (.int (if i < 0 then -i else i)) := rfl
theorem boolsOf_map {α : Type} (f : α → Bool) : ∀ l : List α, boolsOf (l.map fun x => .bl (f x)) = some (l.map f)
  | [] => rfl
  | x :: l => by rw [List.map_cons, boolsOf, boolsOf_map f l]; rfl
theorem intsOf_map {α : Type} (f : α → Int) : ∀ l : List α, intsOf (l.map fun x => .int (f x)) = some (l.map f)
  | [] => rfl
  | x :: l => by rw [List.map_cons, intsOf, intsOf_map f l]; rfl
theorem atI_nat {α : Type} (l : List α) (n : Nat) : L2.atI l (n : Int) = l[n]? := by
  unfold L2.atI L2.ixN
  by_cases h : n < l.length
  · simp [h]
  · simp [h]
theorem atI_0 {α : Type} (a : α) (l : List α) : L2.atI (a :: l) 0 = some a := by
  have := atI_nat (a :: l) 0; simpa using this
theorem atI_1 {α : Type} (a b : α) (l : List α) : L2.atI (a :: b :: l) 1 = some b := by
  have := atI_nat (a :: b :: l) 1; simpa using this
theorem atI_2 {α : Type} (a b c : α) (l : List α) : L2.atI (a :: b :: c :: l) 2 = some c := by
  have := atI_nat (a :: b :: c :: l) 2; simpa using this
theorem cut_from1 {α : Type} (a : α) (l : List α) : cut (a :: l) (some 1) none = l := by
  unfold cut HT.sIx
  simp
theorem cut_to {α : Type} (l : List α) (n : Nat) : cut l none (some (n : Int)) = l.take n := by
  unfold cut HT.sIx
  have h0 : ¬ ((n : Int) < 0) := by omega
  simp only [h0, if_false, List.drop_zero, Nat.sub_zero, Int.toNat_natCast]
  by_cases h : n ≤ l.length
  · simp [Nat.min_eq_left h]
  · have h' : l.length ≤ n := by omega
    simp [Nat.min_eq_right h', List.take_of_length_le h']
theorem guard_py {S : Store} {ds : List D} (h : ∀ d ∈ ds, ∀ n, d ≠ .ref n) : guard S S ds = true := by
  unfold guard
  refine List.all_eq_true.mpr fun d hd => ?_
  cases d with
  | ref n => exact absurd rfl (h _ hd n)
  | _ => rfl
theorem guard_nil (S : Store) : guard S S [] = true := rfl
theorem guard_int (S : Store) (l : List D) : guard S S (.int i :: l) = guard S S l := rfl
theorem guard_tup (S : Store) (l : List D) : guard S S (.tup xs :: l) = guard S S l := rfl
theorem guard_lst (S : Store) (l : List D) : guard S S (.lst xs :: l) = guard S S l := rfl
theorem items_tup : items .seq S [.tup xs] = some xs := rfl
theorem items_lst : items .seq S [.lst xs] = some xs := rfl
theorem items_rng1 : items .rng1 S [.int i] = if okRng 0 i then some (rng 0 i) else none := rfl
theorem items_enum_tup : items .enum S [.tup xs] = some ((List.range xs.length).zipWith (fun i x => D.tup [.int (i : Nat), x]) xs) := rfl
theorem items_zip_tup : items .zip S [.tup xs, .tup ys] = some (List.zipWith (fun x y => D.tup [x, y]) xs ys) := rfl
theorem mk_f (S : Store) : mk false xs S = if xs.length ≤ LIM then some (.lst xs, S) else none := rfl
theorem mk_t (S : Store) : mk true xs S = if xs.length ≤ LIM then some (.ref S.length, S ++ [.lst xs]) else none := rfl
theorem cal_fn (P : Prog) (f : Nat → List D → Store → Option (D × Store)) : (cal P f).fn = f := rfl
theorem cal_W (P : Prog) (f : Nat → List D → Store → Option (D × Store)) : (cal P f).W = P.W := rfl
theorem cal_meth (P : Prog) (f : Nat → List D → Store → Option (D × Store)) (c : Nat) (m : Str) : (cal P f).meth c m = (P.meths[c]?).bind (lookM m) := rfl
theorem cal_init (P : Prog) (f : Nat → List D → Store → Option (D × Store)) (c : Nat) : (cal P f).init c = (P.meths[c]?).bind (lookM "__init__") := rfl
end
section
variable {C : Cal} {st : Stm} {r a b : List Stm} {σ σ' : Ev} {S S1 S' : Store} {t : T} {e elt key val : E} {its conds es : List E} {k : IK} {d : D} {ds xs : List D} {cell : Bool} {fl : Flow} {q : Option (D × Store)}
theorem exs_nx (h : ex C st σ S = some (.nx, σ', S')) : exs C (st :: r) σ S = exs C r σ' S' := by rw [exs, h]; rfl
theorem exs_rt (h : ex C st σ S = some (.rt d, σ', S')) : exs C (st :: r) σ S = some (.rt d, σ', S') := by rw [exs, h]; rfl
theorem exs_bk (h : ex C st σ S = some (.bk, σ', S')) : exs C (st :: r) σ S = some (.bk, σ', S') := by rw [exs, h]; rfl
theorem exs_nil : exs C [] σ S = some (.nx, σ, S) := by rw [exs]
theorem ex_asg (h : ev C e σ S = some (d, S1)) (hb : bindT t d σ = some σ') : ex C (.asg t e) σ S = some (.nx, σ', S1) := by rw [ex, h]; simp only [Option.bind_some, hb]
theorem ex_ret (h : ev C e σ S = some (d, S1)) : ex C (.ret e) σ S = some (.rt d, σ, S1) := by rw [ex, h]; rfl
theorem ex_expr (h : ev C e σ S = some (d, S1)) : ex C (.expr e) σ S = some (.nx, σ, S1) := by rw [ex, h]; rfl
theorem ex_for (h1 : evs C its σ S = some (ds, S1)) (h2 : items k S1 ds = some xs) : ex C (.for_ t k its a) σ S = forL (fun s' => guard S1 s' ds) t (fun σ s => exs C a σ s) xs σ S1 := by rw [ex, h1]; simp only [Option.bind_some, h2]
theorem ex_if_t (h : ev C e σ S = some (.bl true, S1)) : ex C (.ife e a b) σ S = exs C a σ S1 := by rw [ex, h]; rfl
theorem ex_if_f (h : ev C e σ S = some (.bl false, S1)) : ex C (.ife e a b) σ S = exs C b σ S1 := by rw [ex, h]; rfl
theorem ev_comp (h1 : evs C its σ S = some (ds, S1)) (h2 : items k S1 ds = some xs) : ev C (.comp cell elt t k its conds) σ S = (compL (fun S' => guard S1 S' ds) (fun x S1 => (bindT t x σ).bind fun σ' => (evc C conds σ' S1).bind fun b =>
        if b.1 then (ev C elt σ' b.2).bind fun y => some ([y.1], y.2) else some ([], b.2)) xs S1).bind fun q => mk cell q.1 q.2 := by rw [ev, h1]; simp only [Option.bind_some, h2]
theorem ev_call {f : Nat} (h1 : evs C es σ S = some (ds, S1)) (h2 : C.fn f ds S1 = q) : ev C (.call f es) σ S = q := by rw [ev, h1]; exact h2
theorem ev_prim {p : Prim} (h1 : evs C es σ S = some (ds, S1)) (h2 : prim p (ds.map (deref S1)) = some d) : ev C (.prim p es) σ S = some (d, S1) := by rw [ev, h1]; simp only [Option.bind_some, h2, Option.map_some]
theorem evs_1 (h : ev C e σ S = some (d, S1)) : evs C [e] σ S = some ([d], S1) := by
  cases e with
  | star e => simp [ev] at h
  | _ =>
    show ((ev C _ σ S).bind fun r => (evs C [] σ r.2).bind fun q => some (r.1 :: q.1, q.2)) = _
    rw [h]
    rfl
end
inductive Fm where
  | tt | ff | cl (c : Str) | nt (f : Fm) | nn (b : Bool) (fs : List Fm)
mutual
def Fm.enc : Fm → D
  | .tt => .tup [.str "true"]
  | .ff => .tup [.str "false"]
  | .cl c => .tup [.str "claim", .str c]
  | .nt f => .tup [.str "not", f.enc]
  | .nn b fs => .tup [.str (if b then "and" else "or"), .tup (Fm.encs fs)]
def Fm.encs : List Fm → List D
  | [] => []
  | f :: fs => f.enc :: Fm.encs fs
end
theorem Fm.encs_map : ∀ fs : List Fm, Fm.encs fs = fs.map Fm.enc
  | [] => rfl
  | f :: fs => by rw [Fm.encs, Fm.encs_map fs]; rfl
def Fm.inners : Fm → List Fm
  | .nt f => [f]
  | .nn _ fs => fs
  | _ => []
theorem deref_enc (S : Store) (f : Fm) : deref S f.enc = f.enc := by cases f <;> rw [Fm.enc] <;> rfl
mutual
theorem Fm.py : ∀ f : Fm, f.enc.isPy = true
  | .tt => by rw [Fm.enc]; rfl
  | .ff => by rw [Fm.enc]; rfl
  | .cl c => by rw [Fm.enc]; rfl
  | .nt f => by rw [Fm.enc]; simp [D.isPy, D.isPys, Fm.py f]
  | .nn b fs => by rw [Fm.enc]; simp [D.isPy, D.isPys, Fm.pys fs]
theorem Fm.pys : ∀ fs : List Fm, D.isPys (Fm.encs fs) = true
  | [] => rfl
  | f :: fs => by rw [Fm.encs, D.isPys, Fm.py f, Fm.pys fs]; rfl
end
/-- inner_formulas -/
def b3 : FD := ⟨1, 0, [
  .ife (.and (.b2 .inn (.idx (.var 0) (.cst (.int 0))) (.tup [(.cst (.str "and")), (.cst (.str "or"))])) (.b2 .eq (.prim .len [(.var 0)]) (.cst (.int 2)))) [.ret (.idx (.var 0) (.cst (.int 1)))] [],
  .ret (.ite (.b2 .eq (.idx (.var 0) (.cst (.int 0))) (.cst (.str "not"))) (.slc (.var 0) (some (.cst (.int 1))) none) (.tup []))]⟩
theorem inner_spec {P : Prog} {i : Nat} (h : P.funs[i]? = some b3) (n : Nat) (f : Fm) (S : Store) : run P (n + 1) i [f.enc] S = some (.tup (Fm.encs f.inners), S) := by
  rw [run_eq h rfl]
  have m : ∀ x : Str, memD (.str x) [.str "and", .str "or"] = some (decide (x ∈ (["and", "or"] : List Str))) := fun x => memD_strs x ["and", "or"]
  have key : (exs (cal P (run P n)) b3.body ([f.enc].map some ++ List.replicate b3.nloc none) S) = some (.rt (.tup (Fm.encs f.inners)), [some f.enc], S) := by
    cases f with
    | tt => simp only [b3, Fm.enc]; (simp (decide := true) [exs, ex, ev, evs, evo, evc, bindT, bindL, getV, seqOf, de_str, de_int, de_bl, de_non, de_tup, de_lst, de_dic, de_inp, eqD_str, eqD_int, eqD_bl, bin_eq, bin_ne, bin_inn_tup, bin_inn_lst, bin_notin_tup, bin_notin_lst, bin_inn_str, bin_notin_str, bin_add_int, bin_sub_int, bin_add_tup, bin_add_lst, bin_lt_int, bin_gt_int, bin_le_int, bin_ge_int, bin_band, bin_bor, bin_shl, bin_shr, bin_mod, bin_fdiv, bin_mul_int, bin_mul_lst, bin_mul_tup, un_not, un_inv, idx_tup, idx_lst, idx_str, idx_dic, slc_tup, slc_lst, slc_inp, prim_len_tup, prim_len_lst, prim_len_str, prim_int_int, prim_int_bl, prim_tuple_lst, prim_tuple_tup, prim_list_lst, prim_list_tup, prim_all, prim_any, prim_sum, prim_max2, prim_sorted, prim_lr, prim_abs, atI_0, atI_1, atI_2, cut_from1, items_tup, items_lst, items_rng1, items_enum_tup, items_zip_tup, mk_f, mk_t, LIM, cal_fn, cal_W, cal_meth, cal_init, guard_nil, guard_int, guard_tup, guard_lst, m, Fm.inners, Fm.encs])
    | ff => simp only [b3, Fm.enc]; (simp (decide := true) [exs, ex, ev, evs, evo, evc, bindT, bindL, getV, seqOf, de_str, de_int, de_bl, de_non, de_tup, de_lst, de_dic, de_inp, eqD_str, eqD_int, eqD_bl, bin_eq, bin_ne, bin_inn_tup, bin_inn_lst, bin_notin_tup, bin_notin_lst, bin_inn_str, bin_notin_str, bin_add_int, bin_sub_int, bin_add_tup, bin_add_lst, bin_lt_int, bin_gt_int, bin_le_int, bin_ge_int, bin_band, bin_bor, bin_shl, bin_shr, bin_mod, bin_fdiv, bin_mul_int, bin_mul_lst, bin_mul_tup, un_not, un_inv, idx_tup, idx_lst, idx_str, idx_dic, slc_tup, slc_lst, slc_inp, prim_len_tup, prim_len_lst, prim_len_str, prim_int_int, prim_int_bl, prim_tuple_lst, prim_tuple_tup, prim_list_lst, prim_list_tup, prim_all, prim_any, prim_sum, prim_max2, prim_sorted, prim_lr, prim_abs, atI_0, atI_1, atI_2, cut_from1, items_tup, items_lst, items_rng1, items_enum_tup, items_zip_tup, mk_f, mk_t, LIM, cal_fn, cal_W, cal_meth, cal_init, guard_nil, guard_int, guard_tup, guard_lst, m, Fm.inners, Fm.encs])
    | cl c => simp only [b3, Fm.enc]; (simp (decide := true) [exs, ex, ev, evs, evo, evc, bindT, bindL, getV, seqOf, de_str, de_int, de_bl, de_non, de_tup, de_lst, de_dic, de_inp, eqD_str, eqD_int, eqD_bl, bin_eq, bin_ne, bin_inn_tup, bin_inn_lst, bin_notin_tup, bin_notin_lst, bin_inn_str, bin_notin_str, bin_add_int, bin_sub_int, bin_add_tup, bin_add_lst, bin_lt_int, bin_gt_int, bin_le_int, bin_ge_int, bin_band, bin_bor, bin_shl, bin_shr, bin_mod, bin_fdiv, bin_mul_int, bin_mul_lst, bin_mul_tup, un_not, un_inv, idx_tup, idx_lst, idx_str, idx_dic, slc_tup, slc_lst, slc_inp, prim_len_tup, prim_len_lst, prim_len_str, prim_int_int, prim_int_bl, prim_tuple_lst, prim_tuple_tup, prim_list_lst, prim_list_tup, prim_all, prim_any, prim_sum, prim_max2, prim_sorted, prim_lr, prim_abs, atI_0, atI_1, atI_2, cut_from1, items_tup, items_lst, items_rng1, items_enum_tup, items_zip_tup, mk_f, mk_t, LIM, cal_fn, cal_W, cal_meth, cal_init, guard_nil, guard_int, guard_tup, guard_lst, m, Fm.inners, Fm.encs])
    | nt f => simp only [b3, Fm.enc]; (simp (decide := true) [exs, ex, ev, evs, evo, evc, bindT, bindL, getV, seqOf, de_str, de_int, de_bl, de_non, de_tup, de_lst, de_dic, de_inp, eqD_str, eqD_int, eqD_bl, bin_eq, bin_ne, bin_inn_tup, bin_inn_lst, bin_notin_tup, bin_notin_lst, bin_inn_str, bin_notin_str, bin_add_int, bin_sub_int, bin_add_tup, bin_add_lst, bin_lt_int, bin_gt_int, bin_le_int, bin_ge_int, bin_band, bin_bor, bin_shl, bin_shr, bin_mod, bin_fdiv, bin_mul_int, bin_mul_lst, bin_mul_tup, un_not, un_inv, idx_tup, idx_lst, idx_str, idx_dic, slc_tup, slc_lst, slc_inp, prim_len_tup, prim_len_lst, prim_len_str, prim_int_int, prim_int_bl, prim_tuple_lst, prim_tuple_tup, prim_list_lst, prim_list_tup, prim_all, prim_any, prim_sum, prim_max2, prim_sorted, prim_lr, prim_abs, atI_0, atI_1, atI_2, cut_from1, items_tup, items_lst, items_rng1, items_enum_tup, items_zip_tup, mk_f, mk_t, LIM, cal_fn, cal_W, cal_meth, cal_init, guard_nil, guard_int, guard_tup, guard_lst, m, Fm.inners, Fm.encs])
    | nn b fs => cases b <;> simp only [b3, Fm.enc] <;> (simp (decide := true) [exs, ex, ev, evs, evo, evc, bindT, bindL, getV, seqOf, de_str, de_int, de_bl, de_non, de_tup, de_lst, de_dic, de_inp, eqD_str, eqD_int, eqD_bl, bin_eq, bin_ne, bin_inn_tup, bin_inn_lst, bin_notin_tup, bin_notin_lst, bin_inn_str, bin_notin_str, bin_add_int, bin_sub_int, bin_add_tup, bin_add_lst, bin_lt_int, bin_gt_int, bin_le_int, bin_ge_int, bin_band, bin_bor, bin_shl, bin_shr, bin_mod, bin_fdiv, bin_mul_int, bin_mul_lst, bin_mul_tup, un_not, un_inv, idx_tup, idx_lst, idx_str, idx_dic, slc_tup, slc_lst, slc_inp, prim_len_tup, prim_len_lst, prim_len_str, prim_int_int, prim_int_bl, prim_tuple_lst, prim_tuple_tup, prim_list_lst, prim_list_tup, prim_all, prim_any, prim_sum, prim_max2, prim_sorted, prim_lr, prim_abs, atI_0, atI_1, atI_2, cut_from1, items_tup, items_lst, items_rng1, items_enum_tup, items_zip_tup, mk_f, mk_t, LIM, cal_fn, cal_W, cal_meth, cal_init, guard_nil, guard_int, guard_tup, guard_lst, m, Fm.inners, Fm.encs])
  rw [key]
  exact leaveF_py0 (by rw [D.isPy]; exact Fm.pys _)
end Fw
end
section
set_option Elab.async false
set_option linter.all false
set_option autoImplicit false
set_option maxRecDepth 10000
set_option maxHeartbeats 2000000
/-! Pl4: the functions of conditions: formulas. -/
namespace Fw
open PySem
mutual
def Fm.dep : Fm → Nat
  | .nt f => f.dep + 1
  | .nn _ fs => Fm.deps fs
  | _ => 0
/-- how deep, one more -/
def Fm.deps : List Fm → Nat
  | [] => 0
  | f :: fs => max (f.dep + 1) (Fm.deps fs)
end
mutual
def Fm.parts : Fm → Nat
  | .nt f => 1 + f.parts
  | .nn _ fs => 1 + Fm.partss fs
  | _ => 1
def Fm.partss : List Fm → Nat
  | [] => 0
  | f :: fs => f.parts + Fm.partss fs
end
theorem Fm.dep_inners (f : Fm) : f.dep = Fm.deps f.inners := by cases f <;> simp [Fm.dep, Fm.inners, Fm.deps]
theorem Fm.parts_inners (f : Fm) : f.parts = 1 + Fm.partss f.inners := by cases f <;> simp [Fm.parts, Fm.inners, Fm.partss]
theorem Fm.deps_mem {g : Fm} : ∀ {fs : List Fm}, g ∈ fs → g.dep + 1 ≤ Fm.deps fs
  | f :: fs, h => by
    rw [Fm.deps]
    rcases List.mem_cons.mp h with e | h
    · subst e; omega
    · have := Fm.deps_mem h; omega
/-- measured -/
def b4 (o : Nat → Nat) : FD := ⟨1, 5, [
  .asg (.tup [1, 2]) (.tup [(.cst (.int 1)), (.cst (.int 0))]),
  .for_ (.name 3) .seq [(.call (o 3) [(.var 0)])] [.asg (.tup [4, 5]) (.call (o 4) [(.var 3)]), .par [1, 2] [(.b2 .add (.var 1) (.var 4)), (.prim .max2 [(.var 2), (.b2 .add (.var 5) (.cst (.int 1)))])]],
  .ret (.tup [(.var 1), (.var 2)])]⟩
theorem measured_spec {P : Prog} {o : Nat → Nat} (h3 : P.funs[o 3]? = some b3) (h4 : P.funs[o 4]? = some (b4 o)) : ∀ (n : Nat) (f : Fm) (S : Store), f.dep ≤ n → run P (n + 2) (o 4) [f.enc] S = some (.tup [.int f.parts, .int f.dep], S) := by
  intro n
  induction n using Nat.strongRecOn with
  | _ n ih =>
  intro f S hd
  rw [run_eq h4 rfl]
  have key : ∃ σ, (exs (cal P (run P (n + 1))) (b4 o).body ([f.enc].map some ++ List.replicate (b4 o).nloc none) S) = some (.rt (.tup [.int f.parts, .int f.dep]), σ, S) := by
    have loop := forL_inv (g := fun S' => guard S S' [.tup (Fm.encs f.inners)]) (t := .name 3) (body := fun σ S => exs (cal P (run P (n + 1))) [.asg (.tup [4, 5]) (.call (o 4) [(.var 3)]), .par [1, 2] [(.b2 .add (.var 1) (.var 4)), (.prim .max2 [(.var 2), (.b2 .add (.var 5) (.cst (.int 1)))])]] σ S) Fm.enc
      (fun r σ S' => S' = S ∧ (∀ g ∈ r, g ∈ f.inners) ∧ ∃ (p d : Nat) (x y z : Option D), σ = [some f.enc, some (.int p), some (.int d), x, y, z] ∧ p + Fm.partss r = f.parts ∧ max d (Fm.deps r) = f.dep)
      (fun res => ∃ σ, res = some (.nx, σ, S) ∧ ∃ x y z, σ = [some f.enc, some (.int f.parts), some (.int f.dep), x, y, z])
      (xs := f.inners) (σ := [some f.enc, some (.int 1), some (.int 0), none, none, none]) (S := S)
      ⟨rfl, fun g hg => hg, 1, 0, none, none, none, rfl, (Fm.parts_inners f).symm, by rw [Fm.dep_inners f]; omega⟩
      (fun g r σ S' ⟨hS, hm, p, d, x, y, z, hσ, hp, hdd⟩ => by
        subst hS hσ
        have hg := Fm.deps_mem (hm g List.mem_cons_self)
        rw [← Fm.dep_inners] at hg
        have hn : ∃ m, n = m + 1 := ⟨n - 1, by omega⟩
        obtain ⟨m, rfl⟩ := hn
        have e := ih m (by omega) g S' (by omega)
        refine ⟨_, rfl, .inl ⟨[some f.enc, some (.int (p + g.parts : Nat)), some (.int (max d (g.dep + 1) : Nat)), some g.enc, some (.int g.parts), some (.int g.dep)], S', .inl ?_, rfl, rfl, fun g' hg' => hm g' (List.mem_cons_of_mem _ hg'), _, _, _, _, _, rfl, ?_, ?_⟩⟩
        · (simp (decide := true) [exs, ex, ev, evs, evo, evc, bindT, bindL, getV, seqOf, de_str, de_int, de_bl, de_non, de_tup, de_lst, de_dic, de_inp, eqD_str, eqD_int, eqD_bl, bin_eq, bin_ne, bin_inn_tup, bin_inn_lst, bin_notin_tup, bin_notin_lst, bin_inn_str, bin_notin_str, bin_add_int, bin_sub_int, bin_add_tup, bin_add_lst, bin_lt_int, bin_gt_int, bin_le_int, bin_ge_int, bin_band, bin_bor, bin_shl, bin_shr, bin_mod, bin_fdiv, bin_mul_int, bin_mul_lst, bin_mul_tup, un_not, un_inv, idx_tup, idx_lst, idx_str, idx_dic, slc_tup, slc_lst, slc_inp, prim_len_tup, prim_len_lst, prim_len_str, prim_int_int, prim_int_bl, prim_tuple_lst, prim_tuple_tup, prim_list_lst, prim_list_tup, prim_all, prim_any, prim_sum, prim_max2, prim_sorted, prim_lr, prim_abs, atI_0, atI_1, atI_2, cut_from1, items_tup, items_lst, items_rng1, items_enum_tup, items_zip_tup, mk_f, mk_t, LIM, cal_fn, cal_W, cal_meth, cal_init, guard_nil, guard_int, guard_tup, guard_lst, e])
          by_cases q : (d : Int) < (g.dep : Int) + 1
          · rw [if_pos q]; omega
          · rw [if_neg q]; omega
        · rw [Fm.partss] at hp; omega
        · rw [Fm.deps] at hdd; omega)
      (fun σ S' ⟨hS, _, p, d, x, y, z, hσ, hp, hdd⟩ => by
        subst hS hσ
        simp [Fm.partss, Fm.deps] at hp hdd
        subst hp hdd
        exact ⟨_, rfl, x, y, z, rfl⟩)
    obtain ⟨σ, e1, x, y, z, e2⟩ := loop
    subst e2
    have e3 := inner_spec h3 n f S
    refine ⟨[some f.enc, some (.int f.parts), some (.int f.dep), x, y, z], ?_⟩
    rw [← Fm.encs_map] at e1
    show exs (cal P (run P (n + 1))) [_, _, _] [some f.enc, none, none, none, none, none] S = _
    rw [exs_nx (σ' := [some f.enc, some (.int 1), some (.int 0), none, none, none]) (S' := S) (by (simp (decide := true) [exs, ex, ev, evs, evo, evc, bindT, bindL, getV, seqOf, de_str, de_int, de_bl, de_non, de_tup, de_lst, de_dic, de_inp, eqD_str, eqD_int, eqD_bl, bin_eq, bin_ne, bin_inn_tup, bin_inn_lst, bin_notin_tup, bin_notin_lst, bin_inn_str, bin_notin_str, bin_add_int, bin_sub_int, bin_add_tup, bin_add_lst, bin_lt_int, bin_gt_int, bin_le_int, bin_ge_int, bin_band, bin_bor, bin_shl, bin_shr, bin_mod, bin_fdiv, bin_mul_int, bin_mul_lst, bin_mul_tup, un_not, un_inv, idx_tup, idx_lst, idx_str, idx_dic, slc_tup, slc_lst, slc_inp, prim_len_tup, prim_len_lst, prim_len_str, prim_int_int, prim_int_bl, prim_tuple_lst, prim_tuple_tup, prim_list_lst, prim_list_tup, prim_all, prim_any, prim_sum, prim_max2, prim_sorted, prim_lr, prim_abs, atI_0, atI_1, atI_2, cut_from1, items_tup, items_lst, items_rng1, items_enum_tup, items_zip_tup, mk_f, mk_t, LIM, cal_fn, cal_W, cal_meth, cal_init, guard_nil, guard_int, guard_tup, guard_lst]))]
    rw [exs_nx (σ' := [some f.enc, some (.int f.parts), some (.int f.dep), x, y, z]) (S' := S) (by rw [ex_for (ds := [.tup (Fm.encs f.inners)]) (S1 := S) (by (simp (decide := true) [exs, ex, ev, evs, evo, evc, bindT, bindL, getV, seqOf, de_str, de_int, de_bl, de_non, de_tup, de_lst, de_dic, de_inp, eqD_str, eqD_int, eqD_bl, bin_eq, bin_ne, bin_inn_tup, bin_inn_lst, bin_notin_tup, bin_notin_lst, bin_inn_str, bin_notin_str, bin_add_int, bin_sub_int, bin_add_tup, bin_add_lst, bin_lt_int, bin_gt_int, bin_le_int, bin_ge_int, bin_band, bin_bor, bin_shl, bin_shr, bin_mod, bin_fdiv, bin_mul_int, bin_mul_lst, bin_mul_tup, un_not, un_inv, idx_tup, idx_lst, idx_str, idx_dic, slc_tup, slc_lst, slc_inp, prim_len_tup, prim_len_lst, prim_len_str, prim_int_int, prim_int_bl, prim_tuple_lst, prim_tuple_tup, prim_list_lst, prim_list_tup, prim_all, prim_any, prim_sum, prim_max2, prim_sorted, prim_lr, prim_abs, atI_0, atI_1, atI_2, cut_from1, items_tup, items_lst, items_rng1, items_enum_tup, items_zip_tup, mk_f, mk_t, LIM, cal_fn, cal_W, cal_meth, cal_init, guard_nil, guard_int, guard_tup, guard_lst, e3])) rfl]; exact e1)]
    rw [exs_rt (d := .tup [.int f.parts, .int f.dep]) (σ' := [some f.enc, some (.int f.parts), some (.int f.dep), x, y, z]) (S' := S) (by (simp (decide := true) [exs, ex, ev, evs, evo, evc, bindT, bindL, getV, seqOf, de_str, de_int, de_bl, de_non, de_tup, de_lst, de_dic, de_inp, eqD_str, eqD_int, eqD_bl, bin_eq, bin_ne, bin_inn_tup, bin_inn_lst, bin_notin_tup, bin_notin_lst, bin_inn_str, bin_notin_str, bin_add_int, bin_sub_int, bin_add_tup, bin_add_lst, bin_lt_int, bin_gt_int, bin_le_int, bin_ge_int, bin_band, bin_bor, bin_shl, bin_shr, bin_mod, bin_fdiv, bin_mul_int, bin_mul_lst, bin_mul_tup, un_not, un_inv, idx_tup, idx_lst, idx_str, idx_dic, slc_tup, slc_lst, slc_inp, prim_len_tup, prim_len_lst, prim_len_str, prim_int_int, prim_int_bl, prim_tuple_lst, prim_tuple_tup, prim_list_lst, prim_list_tup, prim_all, prim_any, prim_sum, prim_max2, prim_sorted, prim_lr, prim_abs, atI_0, atI_1, atI_2, cut_from1, items_tup, items_lst, items_rng1, items_enum_tup, items_zip_tup, mk_f, mk_t, LIM, cal_fn, cal_W, cal_meth, cal_init, guard_nil, guard_int, guard_tup, guard_lst]))]
  obtain ⟨σ, key⟩ := key
  rw [key, Option.bind_some]
  exact leaveF_py0 rfl

/-! ### is_formula -/
mutual
def Fm.wf (cs : List Str) : Fm → Bool
  | .cl c => decide (c ∈ cs)
  | .nt f => f.wf cs
  | .nn _ fs => decide (2 ≤ fs.length) && Fm.wfs cs fs
  | _ => true
def Fm.wfs (cs : List Str) : List Fm → Bool
  | [] => true
  | f :: fs => f.wf cs && Fm.wfs cs fs
end
theorem Fm.wfs_mem {cs : List Str} {g : Fm} : ∀ {fs : List Fm}, Fm.wfs cs fs = true → g ∈ fs → g.wf cs = true
  | f :: fs, h, m => by
    rw [Fm.wfs, Bool.and_eq_true] at h
    rcases List.mem_cons.mp m with e | m
    · subst e; exact h.1
    · exact Fm.wfs_mem h.2 m
theorem Fm.wf_inners {cs : List Str} {f g : Fm} (h : f.wf cs = true) (m : g ∈ f.inners) : g.wf cs = true := by
  cases f with
  | nt f => simp [Fm.inners] at m; subst m; simpa [Fm.wf] using h
  | nn b fs => simp [Fm.wf] at h; exact Fm.wfs_mem h.2 (by simpa [Fm.inners] using m)
  | _ => simp [Fm.inners] at m
theorem Fm.encs_length : ∀ fs : List Fm, (Fm.encs fs).length = fs.length
  | [] => rfl
  | f :: fs => by rw [Fm.encs, List.length_cons, Fm.encs_length fs]; rfl
def b5 (o : Nat → Nat) : FD := ⟨2, 2, [
  .asg (.name 2) (.idx (.var 0) (.cst (.int 0))),
  .ife (.b2 .ne (.cget [((.str "true"), (.int 1)), ((.str "false"), (.int 1)), ((.str "claim"), (.int 2)), ((.str "not"), (.int 2)), ((.str "and"), (.int 2)), ((.str "or"), (.int 2))] (.var 2) (.cst (.int 0))) (.prim .len [(.var 0)])) [.ret (.cst (.bl false))] [],
  .ife (.b2 .eq (.var 2) (.cst (.str "claim"))) [.ret (.b2 .inn (.idx (.var 0) (.cst (.int 1))) (.var 1))] [],
  .ife (.and (.b2 .inn (.var 2) (.tup [(.cst (.str "and")), (.cst (.str "or"))])) (.b2 .lt (.prim .len [(.idx (.var 0) (.cst (.int 1)))]) (.cst (.int 2)))) [.ret (.cst (.bl false))] [],
  .ret (.prim .all [(.comp false (.call (o 5) [(.var 3), (.var 1)]) (.name 3) .seq [(.call (o 3) [(.var 0)])] [])])]⟩
/-- a comprehension that gives a Bool each -/
theorem all_true {α : Type} (l : List α) : boolsOf (l.map fun _ => D.bl true) = some (l.map fun _ => true) := boolsOf_map (fun _ => true) l
theorem all_id_true {α : Type} (l : List α) : ((l.map fun _ => true).all id) = true := by
  rw [List.all_eq_true]; intro x hx; obtain ⟨_, _, rfl⟩ := List.mem_map.mp hx; rfl
theorem formula_spec {P : Prog} {o : Nat → Nat} (h3 : P.funs[o 3]? = some b3) (h5 : P.funs[o 5]? = some (b5 o)) (cs : List Str) : ∀ (n : Nat) (f : Fm) (S : Store), f.dep ≤ n → f.parts ≤ 1000 → f.wf cs = true → run P (n + 2) (o 5) [f.enc, .tup (cs.map .str)] S = some (.bl true, S) := by
  intro n
  induction n using Nat.strongRecOn with
  | _ n ih =>
  intro f S hd hp hw
  rw [run_eq h5 rfl]
  have m : ∀ x : Str, memD (.str x) [.str "and", .str "or"] = some (decide (x ∈ (["and", "or"] : List Str))) := fun x => memD_strs x ["and", "or"]
  have e3 := inner_spec h3 n f S
  have hlen : f.inners.length ≤ 1000 := by
    have : ∀ fs : List Fm, fs.length ≤ Fm.partss fs := by
      intro fs
      induction fs with
      | nil => exact Nat.le_refl _
      | cons f fs ih =>
        rw [Fm.partss, List.length_cons]
        have : 1 ≤ f.parts := by rw [Fm.parts_inners]; omega
        omega
    have h1 := this f.inners
    rw [Fm.parts_inners] at hp
    omega
  have comp : ∀ (σ : Ev), σ[0]? = some (some f.enc) → σ[1]? = some (some (.tup (cs.map .str))) → 3 < σ.length → ev (cal P (run P (n + 1))) (.prim .all [(.comp false (.call (o 5) [(.var 3), (.var 1)]) (.name 3) .seq [(.call (o 3) [(.var 0)])] [])]) σ S = some (.bl true, S) := fun σ h0 h1 hl => by
    have g0 : ev (cal P (run P (n + 1))) (.call (o 3) [(.var 0)]) σ S = some (.tup (Fm.encs f.inners), S) := ev_call (ds := [f.enc]) (S1 := S) (evs_1 (by simp [ev, getV, h0])) e3
    refine ev_prim (ds := [.lst (f.inners.map fun _ => D.bl true)]) (S1 := S) (evs_1 ?_) ?_
    · rw [ev_comp (ds := [.tup (Fm.encs f.inners)]) (S1 := S) (xs := Fm.encs f.inners) (evs_1 g0) rfl, Fm.encs_map, compL_mapc Fm.enc (fun _ => D.bl true) rfl]
      · simp [mk_f, LIM]; omega
      · intro g hg
        have hgd := Fm.deps_mem hg
        rw [← Fm.dep_inners] at hgd
        obtain ⟨m', rfl⟩ : ∃ m', n = m' + 1 := ⟨n - 1, by omega⟩
        have hgp : g.parts ≤ 1000 := by
          have : ∀ fs : List Fm, g ∈ fs → g.parts ≤ Fm.partss fs := by
            intro fs
            induction fs with
            | nil => intro h; cases h
            | cons f fs ih =>
              intro h
              rw [Fm.partss]
              rcases List.mem_cons.mp h with e | h
              · subst e; omega
              · have := ih h; omega
          have h1 := this f.inners hg
          rw [Fm.parts_inners] at hp
          omega
        have e := ih m' (by omega) g S (by omega) hgp (Fm.wf_inners hw hg)
        have g3 : (σ.set 3 (some g.enc))[3]? = some (some g.enc) := List.getElem?_set_self hl
        have g1 : (σ.set 3 (some g.enc))[1]? = some (some (.tup (cs.map .str))) := by rw [List.getElem?_set_ne (by decide)]; exact h1
        (simp (decide := true) [exs, ex, ev, evs, evo, evc, bindT, bindL, getV, seqOf, de_str, de_int, de_bl, de_non, de_tup, de_lst, de_dic, de_inp, eqD_str, eqD_int, eqD_bl, bin_eq, bin_ne, bin_inn_tup, bin_inn_lst, bin_notin_tup, bin_notin_lst, bin_inn_str, bin_notin_str, bin_add_int, bin_sub_int, bin_add_tup, bin_add_lst, bin_lt_int, bin_gt_int, bin_le_int, bin_ge_int, bin_band, bin_bor, bin_shl, bin_shr, bin_mod, bin_fdiv, bin_mul_int, bin_mul_lst, bin_mul_tup, un_not, un_inv, idx_tup, idx_lst, idx_str, idx_dic, slc_tup, slc_lst, slc_inp, prim_len_tup, prim_len_lst, prim_len_str, prim_int_int, prim_int_bl, prim_tuple_lst, prim_tuple_tup, prim_list_lst, prim_list_tup, prim_all, prim_any, prim_sum, prim_max2, prim_sorted, prim_lr, prim_abs, atI_0, atI_1, atI_2, cut_from1, items_tup, items_lst, items_rng1, items_enum_tup, items_zip_tup, mk_f, mk_t, LIM, cal_fn, cal_W, cal_meth, cal_init, guard_nil, guard_int, guard_tup, guard_lst, g3, g1, e])
    · show prim .all [.lst (f.inners.map fun _ => D.bl true)] = _
      rw [prim_all, all_true]
      simp only [Option.map_some, all_id_true]
  have key : ∃ σ, (exs (cal P (run P (n + 1))) (b5 o).body ([f.enc, .tup (cs.map .str)].map some ++ List.replicate (b5 o).nloc none) S) = some (.rt (.bl true), σ, S) := by
    cases f with
    | cl c =>
      simp [Fm.wf] at hw
      simp only [b5, Fm.enc]
      (simp (decide := true) [exs, ex, ev, evs, evo, evc, bindT, bindL, getV, seqOf, de_str, de_int, de_bl, de_non, de_tup, de_lst, de_dic, de_inp, eqD_str, eqD_int, eqD_bl, bin_eq, bin_ne, bin_inn_tup, bin_inn_lst, bin_notin_tup, bin_notin_lst, bin_inn_str, bin_notin_str, bin_add_int, bin_sub_int, bin_add_tup, bin_add_lst, bin_lt_int, bin_gt_int, bin_le_int, bin_ge_int, bin_band, bin_bor, bin_shl, bin_shr, bin_mod, bin_fdiv, bin_mul_int, bin_mul_lst, bin_mul_tup, un_not, un_inv, idx_tup, idx_lst, idx_str, idx_dic, slc_tup, slc_lst, slc_inp, prim_len_tup, prim_len_lst, prim_len_str, prim_int_int, prim_int_bl, prim_tuple_lst, prim_tuple_tup, prim_list_lst, prim_list_tup, prim_all, prim_any, prim_sum, prim_max2, prim_sorted, prim_lr, prim_abs, atI_0, atI_1, atI_2, cut_from1, items_tup, items_lst, items_rng1, items_enum_tup, items_zip_tup, mk_f, mk_t, LIM, cal_fn, cal_W, cal_meth, cal_init, guard_nil, guard_int, guard_tup, guard_lst, lookD, keyD, memD_strs, hw])
    | tt =>
      have c := comp [some Fm.tt.enc, some (.tup (cs.map .str)), some (.str "true"), none] rfl rfl (show 3 < 4 by decide)
      refine ⟨[some Fm.tt.enc, some (.tup (cs.map .str)), some (.str "true"), none], ?_⟩
      show exs (cal P (run P (n + 1))) [_, _, _, _, _] [some Fm.tt.enc, some (.tup (cs.map .str)), none, none] S = _
      rw [exs_nx (σ' := [some Fm.tt.enc, some (.tup (cs.map .str)), some (.str "true"), none]) (S' := S) (by simp only [Fm.enc]; (simp (decide := true) [exs, ex, ev, evs, evo, evc, bindT, bindL, getV, seqOf, de_str, de_int, de_bl, de_non, de_tup, de_lst, de_dic, de_inp, eqD_str, eqD_int, eqD_bl, bin_eq, bin_ne, bin_inn_tup, bin_inn_lst, bin_notin_tup, bin_notin_lst, bin_inn_str, bin_notin_str, bin_add_int, bin_sub_int, bin_add_tup, bin_add_lst, bin_lt_int, bin_gt_int, bin_le_int, bin_ge_int, bin_band, bin_bor, bin_shl, bin_shr, bin_mod, bin_fdiv, bin_mul_int, bin_mul_lst, bin_mul_tup, un_not, un_inv, idx_tup, idx_lst, idx_str, idx_dic, slc_tup, slc_lst, slc_inp, prim_len_tup, prim_len_lst, prim_len_str, prim_int_int, prim_int_bl, prim_tuple_lst, prim_tuple_tup, prim_list_lst, prim_list_tup, prim_all, prim_any, prim_sum, prim_max2, prim_sorted, prim_lr, prim_abs, atI_0, atI_1, atI_2, cut_from1, items_tup, items_lst, items_rng1, items_enum_tup, items_zip_tup, mk_f, mk_t, LIM, cal_fn, cal_W, cal_meth, cal_init, guard_nil, guard_int, guard_tup, guard_lst])), exs_nx (σ' := [some Fm.tt.enc, some (.tup (cs.map .str)), some (.str "true"), none]) (S' := S) (by simp only [Fm.enc]; (simp (decide := true) [exs, ex, ev, evs, evo, evc, bindT, bindL, getV, seqOf, de_str, de_int, de_bl, de_non, de_tup, de_lst, de_dic, de_inp, eqD_str, eqD_int, eqD_bl, bin_eq, bin_ne, bin_inn_tup, bin_inn_lst, bin_notin_tup, bin_notin_lst, bin_inn_str, bin_notin_str, bin_add_int, bin_sub_int, bin_add_tup, bin_add_lst, bin_lt_int, bin_gt_int, bin_le_int, bin_ge_int, bin_band, bin_bor, bin_shl, bin_shr, bin_mod, bin_fdiv, bin_mul_int, bin_mul_lst, bin_mul_tup, un_not, un_inv, idx_tup, idx_lst, idx_str, idx_dic, slc_tup, slc_lst, slc_inp, prim_len_tup, prim_len_lst, prim_len_str, prim_int_int, prim_int_bl, prim_tuple_lst, prim_tuple_tup, prim_list_lst, prim_list_tup, prim_all, prim_any, prim_sum, prim_max2, prim_sorted, prim_lr, prim_abs, atI_0, atI_1, atI_2, cut_from1, items_tup, items_lst, items_rng1, items_enum_tup, items_zip_tup, mk_f, mk_t, LIM, cal_fn, cal_W, cal_meth, cal_init, guard_nil, guard_int, guard_tup, guard_lst, lookD, keyD])), exs_nx (σ' := [some Fm.tt.enc, some (.tup (cs.map .str)), some (.str "true"), none]) (S' := S) (by simp only [Fm.enc]; (simp (decide := true) [exs, ex, ev, evs, evo, evc, bindT, bindL, getV, seqOf, de_str, de_int, de_bl, de_non, de_tup, de_lst, de_dic, de_inp, eqD_str, eqD_int, eqD_bl, bin_eq, bin_ne, bin_inn_tup, bin_inn_lst, bin_notin_tup, bin_notin_lst, bin_inn_str, bin_notin_str, bin_add_int, bin_sub_int, bin_add_tup, bin_add_lst, bin_lt_int, bin_gt_int, bin_le_int, bin_ge_int, bin_band, bin_bor, bin_shl, bin_shr, bin_mod, bin_fdiv, bin_mul_int, bin_mul_lst, bin_mul_tup, un_not, un_inv, idx_tup, idx_lst, idx_str, idx_dic, slc_tup, slc_lst, slc_inp, prim_len_tup, prim_len_lst, prim_len_str, prim_int_int, prim_int_bl, prim_tuple_lst, prim_tuple_tup, prim_list_lst, prim_list_tup, prim_all, prim_any, prim_sum, prim_max2, prim_sorted, prim_lr, prim_abs, atI_0, atI_1, atI_2, cut_from1, items_tup, items_lst, items_rng1, items_enum_tup, items_zip_tup, mk_f, mk_t, LIM, cal_fn, cal_W, cal_meth, cal_init, guard_nil, guard_int, guard_tup, guard_lst])), exs_nx (σ' := [some Fm.tt.enc, some (.tup (cs.map .str)), some (.str "true"), none]) (S' := S) (by simp only [Fm.enc]; (simp (decide := true) [exs, ex, ev, evs, evo, evc, bindT, bindL, getV, seqOf, de_str, de_int, de_bl, de_non, de_tup, de_lst, de_dic, de_inp, eqD_str, eqD_int, eqD_bl, bin_eq, bin_ne, bin_inn_tup, bin_inn_lst, bin_notin_tup, bin_notin_lst, bin_inn_str, bin_notin_str, bin_add_int, bin_sub_int, bin_add_tup, bin_add_lst, bin_lt_int, bin_gt_int, bin_le_int, bin_ge_int, bin_band, bin_bor, bin_shl, bin_shr, bin_mod, bin_fdiv, bin_mul_int, bin_mul_lst, bin_mul_tup, un_not, un_inv, idx_tup, idx_lst, idx_str, idx_dic, slc_tup, slc_lst, slc_inp, prim_len_tup, prim_len_lst, prim_len_str, prim_int_int, prim_int_bl, prim_tuple_lst, prim_tuple_tup, prim_list_lst, prim_list_tup, prim_all, prim_any, prim_sum, prim_max2, prim_sorted, prim_lr, prim_abs, atI_0, atI_1, atI_2, cut_from1, items_tup, items_lst, items_rng1, items_enum_tup, items_zip_tup, mk_f, mk_t, LIM, cal_fn, cal_W, cal_meth, cal_init, guard_nil, guard_int, guard_tup, guard_lst, m])), exs_rt (ex_ret c)]
    | ff =>
      have c := comp [some Fm.ff.enc, some (.tup (cs.map .str)), some (.str "false"), none] rfl rfl (show 3 < 4 by decide)
      refine ⟨[some Fm.ff.enc, some (.tup (cs.map .str)), some (.str "false"), none], ?_⟩
      show exs (cal P (run P (n + 1))) [_, _, _, _, _] [some Fm.ff.enc, some (.tup (cs.map .str)), none, none] S = _
      rw [exs_nx (σ' := [some Fm.ff.enc, some (.tup (cs.map .str)), some (.str "false"), none]) (S' := S) (by simp only [Fm.enc]; (simp (decide := true) [exs, ex, ev, evs, evo, evc, bindT, bindL, getV, seqOf, de_str, de_int, de_bl, de_non, de_tup, de_lst, de_dic, de_inp, eqD_str, eqD_int, eqD_bl, bin_eq, bin_ne, bin_inn_tup, bin_inn_lst, bin_notin_tup, bin_notin_lst, bin_inn_str, bin_notin_str, bin_add_int, bin_sub_int, bin_add_tup, bin_add_lst, bin_lt_int, bin_gt_int, bin_le_int, bin_ge_int, bin_band, bin_bor, bin_shl, bin_shr, bin_mod, bin_fdiv, bin_mul_int, bin_mul_lst, bin_mul_tup, un_not, un_inv, idx_tup, idx_lst, idx_str, idx_dic, slc_tup, slc_lst, slc_inp, prim_len_tup, prim_len_lst, prim_len_str, prim_int_int, prim_int_bl, prim_tuple_lst, prim_tuple_tup, prim_list_lst, prim_list_tup, prim_all, prim_any, prim_sum, prim_max2, prim_sorted, prim_lr, prim_abs, atI_0, atI_1, atI_2, cut_from1, items_tup, items_lst, items_rng1, items_enum_tup, items_zip_tup, mk_f, mk_t, LIM, cal_fn, cal_W, cal_meth, cal_init, guard_nil, guard_int, guard_tup, guard_lst])), exs_nx (σ' := [some Fm.ff.enc, some (.tup (cs.map .str)), some (.str "false"), none]) (S' := S) (by simp only [Fm.enc]; (simp (decide := true) [exs, ex, ev, evs, evo, evc, bindT, bindL, getV, seqOf, de_str, de_int, de_bl, de_non, de_tup, de_lst, de_dic, de_inp, eqD_str, eqD_int, eqD_bl, bin_eq, bin_ne, bin_inn_tup, bin_inn_lst, bin_notin_tup, bin_notin_lst, bin_inn_str, bin_notin_str, bin_add_int, bin_sub_int, bin_add_tup, bin_add_lst, bin_lt_int, bin_gt_int, bin_le_int, bin_ge_int, bin_band, bin_bor, bin_shl, bin_shr, bin_mod, bin_fdiv, bin_mul_int, bin_mul_lst, bin_mul_tup, un_not, un_inv, idx_tup, idx_lst, idx_str, idx_dic, slc_tup, slc_lst, slc_inp, prim_len_tup, prim_len_lst, prim_len_str, prim_int_int, prim_int_bl, prim_tuple_lst, prim_tuple_tup, prim_list_lst, prim_list_tup, prim_all, prim_any, prim_sum, prim_max2, prim_sorted, prim_lr, prim_abs, atI_0, atI_1, atI_2, cut_from1, items_tup, items_lst, items_rng1, items_enum_tup, items_zip_tup, mk_f, mk_t, LIM, cal_fn, cal_W, cal_meth, cal_init, guard_nil, guard_int, guard_tup, guard_lst, lookD, keyD])), exs_nx (σ' := [some Fm.ff.enc, some (.tup (cs.map .str)), some (.str "false"), none]) (S' := S) (by simp only [Fm.enc]; (simp (decide := true) [exs, ex, ev, evs, evo, evc, bindT, bindL, getV, seqOf, de_str, de_int, de_bl, de_non, de_tup, de_lst, de_dic, de_inp, eqD_str, eqD_int, eqD_bl, bin_eq, bin_ne, bin_inn_tup, bin_inn_lst, bin_notin_tup, bin_notin_lst, bin_inn_str, bin_notin_str, bin_add_int, bin_sub_int, bin_add_tup, bin_add_lst, bin_lt_int, bin_gt_int, bin_le_int, bin_ge_int, bin_band, bin_bor, bin_shl, bin_shr, bin_mod, bin_fdiv, bin_mul_int, bin_mul_lst, bin_mul_tup, un_not, un_inv, idx_tup, idx_lst, idx_str, idx_dic, slc_tup, slc_lst, slc_inp, prim_len_tup, prim_len_lst, prim_len_str, prim_int_int, prim_int_bl, prim_tuple_lst, prim_tuple_tup, prim_list_lst, prim_list_tup, prim_all, prim_any, prim_sum, prim_max2, prim_sorted, prim_lr, prim_abs, atI_0, atI_1, atI_2, cut_from1, items_tup, items_lst, items_rng1, items_enum_tup, items_zip_tup, mk_f, mk_t, LIM, cal_fn, cal_W, cal_meth, cal_init, guard_nil, guard_int, guard_tup, guard_lst])), exs_nx (σ' := [some Fm.ff.enc, some (.tup (cs.map .str)), some (.str "false"), none]) (S' := S) (by simp only [Fm.enc]; (simp (decide := true) [exs, ex, ev, evs, evo, evc, bindT, bindL, getV, seqOf, de_str, de_int, de_bl, de_non, de_tup, de_lst, de_dic, de_inp, eqD_str, eqD_int, eqD_bl, bin_eq, bin_ne, bin_inn_tup, bin_inn_lst, bin_notin_tup, bin_notin_lst, bin_inn_str, bin_notin_str, bin_add_int, bin_sub_int, bin_add_tup, bin_add_lst, bin_lt_int, bin_gt_int, bin_le_int, bin_ge_int, bin_band, bin_bor, bin_shl, bin_shr, bin_mod, bin_fdiv, bin_mul_int, bin_mul_lst, bin_mul_tup, un_not, un_inv, idx_tup, idx_lst, idx_str, idx_dic, slc_tup, slc_lst, slc_inp, prim_len_tup, prim_len_lst, prim_len_str, prim_int_int, prim_int_bl, prim_tuple_lst, prim_tuple_tup, prim_list_lst, prim_list_tup, prim_all, prim_any, prim_sum, prim_max2, prim_sorted, prim_lr, prim_abs, atI_0, atI_1, atI_2, cut_from1, items_tup, items_lst, items_rng1, items_enum_tup, items_zip_tup, mk_f, mk_t, LIM, cal_fn, cal_W, cal_meth, cal_init, guard_nil, guard_int, guard_tup, guard_lst, m])), exs_rt (ex_ret c)]
    | nt f =>
      have c := comp [some (Fm.nt f).enc, some (.tup (cs.map .str)), some (.str "not"), none] rfl rfl (show 3 < 4 by decide)
      refine ⟨[some (Fm.nt f).enc, some (.tup (cs.map .str)), some (.str "not"), none], ?_⟩
      show exs (cal P (run P (n + 1))) [_, _, _, _, _] [some (Fm.nt f).enc, some (.tup (cs.map .str)), none, none] S = _
      rw [exs_nx (σ' := [some (Fm.nt f).enc, some (.tup (cs.map .str)), some (.str "not"), none]) (S' := S) (by simp only [Fm.enc]; (simp (decide := true) [exs, ex, ev, evs, evo, evc, bindT, bindL, getV, seqOf, de_str, de_int, de_bl, de_non, de_tup, de_lst, de_dic, de_inp, eqD_str, eqD_int, eqD_bl, bin_eq, bin_ne, bin_inn_tup, bin_inn_lst, bin_notin_tup, bin_notin_lst, bin_inn_str, bin_notin_str, bin_add_int, bin_sub_int, bin_add_tup, bin_add_lst, bin_lt_int, bin_gt_int, bin_le_int, bin_ge_int, bin_band, bin_bor, bin_shl, bin_shr, bin_mod, bin_fdiv, bin_mul_int, bin_mul_lst, bin_mul_tup, un_not, un_inv, idx_tup, idx_lst, idx_str, idx_dic, slc_tup, slc_lst, slc_inp, prim_len_tup, prim_len_lst, prim_len_str, prim_int_int, prim_int_bl, prim_tuple_lst, prim_tuple_tup, prim_list_lst, prim_list_tup, prim_all, prim_any, prim_sum, prim_max2, prim_sorted, prim_lr, prim_abs, atI_0, atI_1, atI_2, cut_from1, items_tup, items_lst, items_rng1, items_enum_tup, items_zip_tup, mk_f, mk_t, LIM, cal_fn, cal_W, cal_meth, cal_init, guard_nil, guard_int, guard_tup, guard_lst])), exs_nx (σ' := [some (Fm.nt f).enc, some (.tup (cs.map .str)), some (.str "not"), none]) (S' := S) (by simp only [Fm.enc]; (simp (decide := true) [exs, ex, ev, evs, evo, evc, bindT, bindL, getV, seqOf, de_str, de_int, de_bl, de_non, de_tup, de_lst, de_dic, de_inp, eqD_str, eqD_int, eqD_bl, bin_eq, bin_ne, bin_inn_tup, bin_inn_lst, bin_notin_tup, bin_notin_lst, bin_inn_str, bin_notin_str, bin_add_int, bin_sub_int, bin_add_tup, bin_add_lst, bin_lt_int, bin_gt_int, bin_le_int, bin_ge_int, bin_band, bin_bor, bin_shl, bin_shr, bin_mod, bin_fdiv, bin_mul_int, bin_mul_lst, bin_mul_tup, un_not, un_inv, idx_tup, idx_lst, idx_str, idx_dic, slc_tup, slc_lst, slc_inp, prim_len_tup, prim_len_lst, prim_len_str, prim_int_int, prim_int_bl, prim_tuple_lst, prim_tuple_tup, prim_list_lst, prim_list_tup, prim_all, prim_any, prim_sum, prim_max2, prim_sorted, prim_lr, prim_abs, atI_0, atI_1, atI_2, cut_from1, items_tup, items_lst, items_rng1, items_enum_tup, items_zip_tup, mk_f, mk_t, LIM, cal_fn, cal_W, cal_meth, cal_init, guard_nil, guard_int, guard_tup, guard_lst, lookD, keyD])), exs_nx (σ' := [some (Fm.nt f).enc, some (.tup (cs.map .str)), some (.str "not"), none]) (S' := S) (by simp only [Fm.enc]; (simp (decide := true) [exs, ex, ev, evs, evo, evc, bindT, bindL, getV, seqOf, de_str, de_int, de_bl, de_non, de_tup, de_lst, de_dic, de_inp, eqD_str, eqD_int, eqD_bl, bin_eq, bin_ne, bin_inn_tup, bin_inn_lst, bin_notin_tup, bin_notin_lst, bin_inn_str, bin_notin_str, bin_add_int, bin_sub_int, bin_add_tup, bin_add_lst, bin_lt_int, bin_gt_int, bin_le_int, bin_ge_int, bin_band, bin_bor, bin_shl, bin_shr, bin_mod, bin_fdiv, bin_mul_int, bin_mul_lst, bin_mul_tup, un_not, un_inv, idx_tup, idx_lst, idx_str, idx_dic, slc_tup, slc_lst, slc_inp, prim_len_tup, prim_len_lst, prim_len_str, prim_int_int, prim_int_bl, prim_tuple_lst, prim_tuple_tup, prim_list_lst, prim_list_tup, prim_all, prim_any, prim_sum, prim_max2, prim_sorted, prim_lr, prim_abs, atI_0, atI_1, atI_2, cut_from1, items_tup, items_lst, items_rng1, items_enum_tup, items_zip_tup, mk_f, mk_t, LIM, cal_fn, cal_W, cal_meth, cal_init, guard_nil, guard_int, guard_tup, guard_lst])), exs_nx (σ' := [some (Fm.nt f).enc, some (.tup (cs.map .str)), some (.str "not"), none]) (S' := S) (by simp only [Fm.enc]; (simp (decide := true) [exs, ex, ev, evs, evo, evc, bindT, bindL, getV, seqOf, de_str, de_int, de_bl, de_non, de_tup, de_lst, de_dic, de_inp, eqD_str, eqD_int, eqD_bl, bin_eq, bin_ne, bin_inn_tup, bin_inn_lst, bin_notin_tup, bin_notin_lst, bin_inn_str, bin_notin_str, bin_add_int, bin_sub_int, bin_add_tup, bin_add_lst, bin_lt_int, bin_gt_int, bin_le_int, bin_ge_int, bin_band, bin_bor, bin_shl, bin_shr, bin_mod, bin_fdiv, bin_mul_int, bin_mul_lst, bin_mul_tup, un_not, un_inv, idx_tup, idx_lst, idx_str, idx_dic, slc_tup, slc_lst, slc_inp, prim_len_tup, prim_len_lst, prim_len_str, prim_int_int, prim_int_bl, prim_tuple_lst, prim_tuple_tup, prim_list_lst, prim_list_tup, prim_all, prim_any, prim_sum, prim_max2, prim_sorted, prim_lr, prim_abs, atI_0, atI_1, atI_2, cut_from1, items_tup, items_lst, items_rng1, items_enum_tup, items_zip_tup, mk_f, mk_t, LIM, cal_fn, cal_W, cal_meth, cal_init, guard_nil, guard_int, guard_tup, guard_lst, m])), exs_rt (ex_ret c)]
    | nn b fs =>
      simp [Fm.wf] at hw
      have hl2 : ¬ ((fs.length : Int) < 2) := by omega
      cases b with
      | true =>
        have c := comp [some (Fm.nn true fs).enc, some (.tup (cs.map .str)), some (.str "and"), none] rfl rfl (show 3 < 4 by decide)
        refine ⟨[some (Fm.nn true fs).enc, some (.tup (cs.map .str)), some (.str "and"), none], ?_⟩
        show exs (cal P (run P (n + 1))) [_, _, _, _, _] [some (Fm.nn true fs).enc, some (.tup (cs.map .str)), none, none] S = _
        rw [exs_nx (σ' := [some (Fm.nn true fs).enc, some (.tup (cs.map .str)), some (.str "and"), none]) (S' := S) (by simp only [Fm.enc]; (simp (decide := true) [exs, ex, ev, evs, evo, evc, bindT, bindL, getV, seqOf, de_str, de_int, de_bl, de_non, de_tup, de_lst, de_dic, de_inp, eqD_str, eqD_int, eqD_bl, bin_eq, bin_ne, bin_inn_tup, bin_inn_lst, bin_notin_tup, bin_notin_lst, bin_inn_str, bin_notin_str, bin_add_int, bin_sub_int, bin_add_tup, bin_add_lst, bin_lt_int, bin_gt_int, bin_le_int, bin_ge_int, bin_band, bin_bor, bin_shl, bin_shr, bin_mod, bin_fdiv, bin_mul_int, bin_mul_lst, bin_mul_tup, un_not, un_inv, idx_tup, idx_lst, idx_str, idx_dic, slc_tup, slc_lst, slc_inp, prim_len_tup, prim_len_lst, prim_len_str, prim_int_int, prim_int_bl, prim_tuple_lst, prim_tuple_tup, prim_list_lst, prim_list_tup, prim_all, prim_any, prim_sum, prim_max2, prim_sorted, prim_lr, prim_abs, atI_0, atI_1, atI_2, cut_from1, items_tup, items_lst, items_rng1, items_enum_tup, items_zip_tup, mk_f, mk_t, LIM, cal_fn, cal_W, cal_meth, cal_init, guard_nil, guard_int, guard_tup, guard_lst])), exs_nx (σ' := [some (Fm.nn true fs).enc, some (.tup (cs.map .str)), some (.str "and"), none]) (S' := S) (by simp only [Fm.enc]; (simp (decide := true) [exs, ex, ev, evs, evo, evc, bindT, bindL, getV, seqOf, de_str, de_int, de_bl, de_non, de_tup, de_lst, de_dic, de_inp, eqD_str, eqD_int, eqD_bl, bin_eq, bin_ne, bin_inn_tup, bin_inn_lst, bin_notin_tup, bin_notin_lst, bin_inn_str, bin_notin_str, bin_add_int, bin_sub_int, bin_add_tup, bin_add_lst, bin_lt_int, bin_gt_int, bin_le_int, bin_ge_int, bin_band, bin_bor, bin_shl, bin_shr, bin_mod, bin_fdiv, bin_mul_int, bin_mul_lst, bin_mul_tup, un_not, un_inv, idx_tup, idx_lst, idx_str, idx_dic, slc_tup, slc_lst, slc_inp, prim_len_tup, prim_len_lst, prim_len_str, prim_int_int, prim_int_bl, prim_tuple_lst, prim_tuple_tup, prim_list_lst, prim_list_tup, prim_all, prim_any, prim_sum, prim_max2, prim_sorted, prim_lr, prim_abs, atI_0, atI_1, atI_2, cut_from1, items_tup, items_lst, items_rng1, items_enum_tup, items_zip_tup, mk_f, mk_t, LIM, cal_fn, cal_W, cal_meth, cal_init, guard_nil, guard_int, guard_tup, guard_lst, lookD, keyD])), exs_nx (σ' := [some (Fm.nn true fs).enc, some (.tup (cs.map .str)), some (.str "and"), none]) (S' := S) (by simp only [Fm.enc]; (simp (decide := true) [exs, ex, ev, evs, evo, evc, bindT, bindL, getV, seqOf, de_str, de_int, de_bl, de_non, de_tup, de_lst, de_dic, de_inp, eqD_str, eqD_int, eqD_bl, bin_eq, bin_ne, bin_inn_tup, bin_inn_lst, bin_notin_tup, bin_notin_lst, bin_inn_str, bin_notin_str, bin_add_int, bin_sub_int, bin_add_tup, bin_add_lst, bin_lt_int, bin_gt_int, bin_le_int, bin_ge_int, bin_band, bin_bor, bin_shl, bin_shr, bin_mod, bin_fdiv, bin_mul_int, bin_mul_lst, bin_mul_tup, un_not, un_inv, idx_tup, idx_lst, idx_str, idx_dic, slc_tup, slc_lst, slc_inp, prim_len_tup, prim_len_lst, prim_len_str, prim_int_int, prim_int_bl, prim_tuple_lst, prim_tuple_tup, prim_list_lst, prim_list_tup, prim_all, prim_any, prim_sum, prim_max2, prim_sorted, prim_lr, prim_abs, atI_0, atI_1, atI_2, cut_from1, items_tup, items_lst, items_rng1, items_enum_tup, items_zip_tup, mk_f, mk_t, LIM, cal_fn, cal_W, cal_meth, cal_init, guard_nil, guard_int, guard_tup, guard_lst])), exs_nx (σ' := [some (Fm.nn true fs).enc, some (.tup (cs.map .str)), some (.str "and"), none]) (S' := S) (by simp only [Fm.enc]; (simp (decide := true) [exs, ex, ev, evs, evo, evc, bindT, bindL, getV, seqOf, de_str, de_int, de_bl, de_non, de_tup, de_lst, de_dic, de_inp, eqD_str, eqD_int, eqD_bl, bin_eq, bin_ne, bin_inn_tup, bin_inn_lst, bin_notin_tup, bin_notin_lst, bin_inn_str, bin_notin_str, bin_add_int, bin_sub_int, bin_add_tup, bin_add_lst, bin_lt_int, bin_gt_int, bin_le_int, bin_ge_int, bin_band, bin_bor, bin_shl, bin_shr, bin_mod, bin_fdiv, bin_mul_int, bin_mul_lst, bin_mul_tup, un_not, un_inv, idx_tup, idx_lst, idx_str, idx_dic, slc_tup, slc_lst, slc_inp, prim_len_tup, prim_len_lst, prim_len_str, prim_int_int, prim_int_bl, prim_tuple_lst, prim_tuple_tup, prim_list_lst, prim_list_tup, prim_all, prim_any, prim_sum, prim_max2, prim_sorted, prim_lr, prim_abs, atI_0, atI_1, atI_2, cut_from1, items_tup, items_lst, items_rng1, items_enum_tup, items_zip_tup, mk_f, mk_t, LIM, cal_fn, cal_W, cal_meth, cal_init, guard_nil, guard_int, guard_tup, guard_lst, m, Fm.encs_length, hl2])), exs_rt (ex_ret c)]
      | false =>
        have c := comp [some (Fm.nn false fs).enc, some (.tup (cs.map .str)), some (.str "or"), none] rfl rfl (show 3 < 4 by decide)
        refine ⟨[some (Fm.nn false fs).enc, some (.tup (cs.map .str)), some (.str "or"), none], ?_⟩
        show exs (cal P (run P (n + 1))) [_, _, _, _, _] [some (Fm.nn false fs).enc, some (.tup (cs.map .str)), none, none] S = _
        rw [exs_nx (σ' := [some (Fm.nn false fs).enc, some (.tup (cs.map .str)), some (.str "or"), none]) (S' := S) (by simp only [Fm.enc]; (simp (decide := true) [exs, ex, ev, evs, evo, evc, bindT, bindL, getV, seqOf, de_str, de_int, de_bl, de_non, de_tup, de_lst, de_dic, de_inp, eqD_str, eqD_int, eqD_bl, bin_eq, bin_ne, bin_inn_tup, bin_inn_lst, bin_notin_tup, bin_notin_lst, bin_inn_str, bin_notin_str, bin_add_int, bin_sub_int, bin_add_tup, bin_add_lst, bin_lt_int, bin_gt_int, bin_le_int, bin_ge_int, bin_band, bin_bor, bin_shl, bin_shr, bin_mod, bin_fdiv, bin_mul_int, bin_mul_lst, bin_mul_tup, un_not, un_inv, idx_tup, idx_lst, idx_str, idx_dic, slc_tup, slc_lst, slc_inp, prim_len_tup, prim_len_lst, prim_len_str, prim_int_int, prim_int_bl, prim_tuple_lst, prim_tuple_tup, prim_list_lst, prim_list_tup, prim_all, prim_any, prim_sum, prim_max2, prim_sorted, prim_lr, prim_abs, atI_0, atI_1, atI_2, cut_from1, items_tup, items_lst, items_rng1, items_enum_tup, items_zip_tup, mk_f, mk_t, LIM, cal_fn, cal_W, cal_meth, cal_init, guard_nil, guard_int, guard_tup, guard_lst])), exs_nx (σ' := [some (Fm.nn false fs).enc, some (.tup (cs.map .str)), some (.str "or"), none]) (S' := S) (by simp only [Fm.enc]; (simp (decide := true) [exs, ex, ev, evs, evo, evc, bindT, bindL, getV, seqOf, de_str, de_int, de_bl, de_non, de_tup, de_lst, de_dic, de_inp, eqD_str, eqD_int, eqD_bl, bin_eq, bin_ne, bin_inn_tup, bin_inn_lst, bin_notin_tup, bin_notin_lst, bin_inn_str, bin_notin_str, bin_add_int, bin_sub_int, bin_add_tup, bin_add_lst, bin_lt_int, bin_gt_int, bin_le_int, bin_ge_int, bin_band, bin_bor, bin_shl, bin_shr, bin_mod, bin_fdiv, bin_mul_int, bin_mul_lst, bin_mul_tup, un_not, un_inv, idx_tup, idx_lst, idx_str, idx_dic, slc_tup, slc_lst, slc_inp, prim_len_tup, prim_len_lst, prim_len_str, prim_int_int, prim_int_bl, prim_tuple_lst, prim_tuple_tup, prim_list_lst, prim_list_tup, prim_all, prim_any, prim_sum, prim_max2, prim_sorted, prim_lr, prim_abs, atI_0, atI_1, atI_2, cut_from1, items_tup, items_lst, items_rng1, items_enum_tup, items_zip_tup, mk_f, mk_t, LIM, cal_fn, cal_W, cal_meth, cal_init, guard_nil, guard_int, guard_tup, guard_lst, lookD, keyD])), exs_nx (σ' := [some (Fm.nn false fs).enc, some (.tup (cs.map .str)), some (.str "or"), none]) (S' := S) (by simp only [Fm.enc]; (simp (decide := true) [exs, ex, ev, evs, evo, evc, bindT, bindL, getV, seqOf, de_str, de_int, de_bl, de_non, de_tup, de_lst, de_dic, de_inp, eqD_str, eqD_int, eqD_bl, bin_eq, bin_ne, bin_inn_tup, bin_inn_lst, bin_notin_tup, bin_notin_lst, bin_inn_str, bin_notin_str, bin_add_int, bin_sub_int, bin_add_tup, bin_add_lst, bin_lt_int, bin_gt_int, bin_le_int, bin_ge_int, bin_band, bin_bor, bin_shl, bin_shr, bin_mod, bin_fdiv, bin_mul_int, bin_mul_lst, bin_mul_tup, un_not, un_inv, idx_tup, idx_lst, idx_str, idx_dic, slc_tup, slc_lst, slc_inp, prim_len_tup, prim_len_lst, prim_len_str, prim_int_int, prim_int_bl, prim_tuple_lst, prim_tuple_tup, prim_list_lst, prim_list_tup, prim_all, prim_any, prim_sum, prim_max2, prim_sorted, prim_lr, prim_abs, atI_0, atI_1, atI_2, cut_from1, items_tup, items_lst, items_rng1, items_enum_tup, items_zip_tup, mk_f, mk_t, LIM, cal_fn, cal_W, cal_meth, cal_init, guard_nil, guard_int, guard_tup, guard_lst])), exs_nx (σ' := [some (Fm.nn false fs).enc, some (.tup (cs.map .str)), some (.str "or"), none]) (S' := S) (by simp only [Fm.enc]; (simp (decide := true) [exs, ex, ev, evs, evo, evc, bindT, bindL, getV, seqOf, de_str, de_int, de_bl, de_non, de_tup, de_lst, de_dic, de_inp, eqD_str, eqD_int, eqD_bl, bin_eq, bin_ne, bin_inn_tup, bin_inn_lst, bin_notin_tup, bin_notin_lst, bin_inn_str, bin_notin_str, bin_add_int, bin_sub_int, bin_add_tup, bin_add_lst, bin_lt_int, bin_gt_int, bin_le_int, bin_ge_int, bin_band, bin_bor, bin_shl, bin_shr, bin_mod, bin_fdiv, bin_mul_int, bin_mul_lst, bin_mul_tup, un_not, un_inv, idx_tup, idx_lst, idx_str, idx_dic, slc_tup, slc_lst, slc_inp, prim_len_tup, prim_len_lst, prim_len_str, prim_int_int, prim_int_bl, prim_tuple_lst, prim_tuple_tup, prim_list_lst, prim_list_tup, prim_all, prim_any, prim_sum, prim_max2, prim_sorted, prim_lr, prim_abs, atI_0, atI_1, atI_2, cut_from1, items_tup, items_lst, items_rng1, items_enum_tup, items_zip_tup, mk_f, mk_t, LIM, cal_fn, cal_W, cal_meth, cal_init, guard_nil, guard_int, guard_tup, guard_lst, m, Fm.encs_length, hl2])), exs_rt (ex_ret c)]
  obtain ⟨σ, key⟩ := key
  rw [key, Option.bind_some]
  exact leaveF_py0 rfl
end Fw
end
section
set_option Elab.async false
set_option linter.all false
set_option autoImplicit false
set_option maxRecDepth 10000
set_option maxHeartbeats 2000000
/-! Pl5: checks of books, labels. -/
namespace Fw
open PySem
def FIRST : Str := "abcdefghijklmnopqrstuvwxyz"
def SIGNS : Str := "abcdefghijklmnopqrstuvwxyz0123456789"
structure ClaimOk (s : Str) : Prop where
  lo : 1 ≤ s.length
  hi : s.length ≤ 12
  first : ∃ c, s.cps.toList[0]? = some c ∧ strIn ⟨#[c]⟩ FIRST = true
  all : ∀ c ∈ s.cps.toList, strIn ⟨#[c]⟩ SIGNS = true
def b0 : FD := ⟨1, 1, [
  .ife (.or (.u1 .not (.chain .le .le (.cst (.int 1)) (.prim .len [(.var 0)]) (.cst (.int 12)))) (.b2 .notin (.idx (.var 0) (.cst (.int 0))) (.cst (.str "abcdefghijklmnopqrstuvwxyz")))) [.ret (.cst (.bl false))] [],
  .ret (.prim .all [(.comp false (.b2 .inn (.var 1) (.cst (.str "abcdefghijklmnopqrstuvwxyz0123456789"))) (.name 1) .seq [(.var 0)] [])])]⟩
theorem all_bl_true {C : Cal} {σ : Ev} {S : Store} {α : Type} (l : List α) {e : E} (h : ev C e σ S = some (.lst (l.map fun _ => D.bl true), S)) : ev C (.prim .all [e]) σ S = some (.bl true, S) := by
  refine ev_prim (ds := [.lst (l.map fun _ => D.bl true)]) (S1 := S) (evs_1 h) ?_
  show prim .all [.lst (l.map fun _ => D.bl true)] = _
  rw [prim_all, all_true]
  simp only [Option.map_some, all_id_true]
theorem items_str (S : Store) (a : Str) : items .seq S [.str a] = some (a.cps.toList.map fun c => D.str ⟨#[c]⟩) := rfl
theorem claim_spec {P : Prog} {i : Nat} (h : P.funs[i]? = some b0) (n : Nat) (s : Str) (S : Store) (hs : ClaimOk s) : run P (n + 1) i [.str s] S = some (.bl true, S) := by
  rw [run_eq h rfl]
  obtain ⟨c, hc, hf⟩ := hs.first
  have l1 : (1 : Int) ≤ (s.length : Int) := by have := hs.lo; omega
  have l2 : (s.length : Int) ≤ 12 := by have := hs.hi; omega
  have hi : L2.atI s.cps.toList 0 = some c := by have := atI_nat s.cps.toList 0; simp only [Int.ofNat_zero] at this; exact this.trans hc
  have hf' : strIn ⟨#[c]⟩ "abcdefghijklmnopqrstuvwxyz" = true := hf
  have key : (exs (cal P (run P n)) b0.body ([.str s].map some ++ List.replicate b0.nloc none) S) = some (.rt (.bl true), [some (.str s), none], S) := by
    show exs (cal P (run P n)) [_, _] [some (.str s), none] S = _
    rw [exs_nx (σ' := [some (.str s), none]) (S' := S) (by (simp (decide := true) [exs, ex, ev, evs, evo, evc, bindT, bindL, getV, seqOf, de_str, de_int, de_bl, de_non, de_tup, de_lst, de_dic, de_inp, eqD_str, eqD_int, eqD_bl, bin_eq, bin_ne, bin_inn_tup, bin_inn_lst, bin_notin_tup, bin_notin_lst, bin_inn_str, bin_notin_str, bin_add_int, bin_sub_int, bin_add_tup, bin_add_lst, bin_lt_int, bin_gt_int, bin_le_int, bin_ge_int, bin_band, bin_bor, bin_shl, bin_shr, bin_mod, bin_fdiv, bin_mul_int, bin_mul_lst, bin_mul_tup, un_not, un_inv, idx_tup, idx_lst, idx_str, idx_dic, slc_tup, slc_lst, slc_inp, prim_len_tup, prim_len_lst, prim_len_str, prim_int_int, prim_int_bl, prim_tuple_lst, prim_tuple_tup, prim_list_lst, prim_list_tup, prim_all, prim_any, prim_sum, prim_max2, prim_sorted, prim_lr, prim_abs, atI_0, atI_1, atI_2, cut_from1, items_tup, items_lst, items_rng1, items_enum_tup, items_zip_tup, mk_f, mk_t, LIM, cal_fn, cal_W, cal_meth, cal_init, guard_nil, guard_int, guard_tup, guard_lst, l1, l2, hi, hf']))]
    rw [exs_rt (ex_ret (all_bl_true s.cps.toList ?_))]
    rw [ev_comp (ds := [.str s]) (S1 := S) (by (simp (decide := true) [exs, ex, ev, evs, evo, evc, bindT, bindL, getV, seqOf, de_str, de_int, de_bl, de_non, de_tup, de_lst, de_dic, de_inp, eqD_str, eqD_int, eqD_bl, bin_eq, bin_ne, bin_inn_tup, bin_inn_lst, bin_notin_tup, bin_notin_lst, bin_inn_str, bin_notin_str, bin_add_int, bin_sub_int, bin_add_tup, bin_add_lst, bin_lt_int, bin_gt_int, bin_le_int, bin_ge_int, bin_band, bin_bor, bin_shl, bin_shr, bin_mod, bin_fdiv, bin_mul_int, bin_mul_lst, bin_mul_tup, un_not, un_inv, idx_tup, idx_lst, idx_str, idx_dic, slc_tup, slc_lst, slc_inp, prim_len_tup, prim_len_lst, prim_len_str, prim_int_int, prim_int_bl, prim_tuple_lst, prim_tuple_tup, prim_list_lst, prim_list_tup, prim_all, prim_any, prim_sum, prim_max2, prim_sorted, prim_lr, prim_abs, atI_0, atI_1, atI_2, cut_from1, items_tup, items_lst, items_rng1, items_enum_tup, items_zip_tup, mk_f, mk_t, LIM, cal_fn, cal_W, cal_meth, cal_init, guard_nil, guard_int, guard_tup, guard_lst])) (items_str S s), compL_mapc (fun c => D.str ⟨#[c]⟩) (fun _ => D.bl true) rfl]
    · have hl : s.cps.size ≤ 12 := hs.hi
      simp [mk_f, LIM]; omega
    · intro c hc
      have := hs.all c hc
      have h2 : strIn ⟨#[c]⟩ "abcdefghijklmnopqrstuvwxyz0123456789" = true := this
      (simp (decide := true) [exs, ex, ev, evs, evo, evc, bindT, bindL, getV, seqOf, de_str, de_int, de_bl, de_non, de_tup, de_lst, de_dic, de_inp, eqD_str, eqD_int, eqD_bl, bin_eq, bin_ne, bin_inn_tup, bin_inn_lst, bin_notin_tup, bin_notin_lst, bin_inn_str, bin_notin_str, bin_add_int, bin_sub_int, bin_add_tup, bin_add_lst, bin_lt_int, bin_gt_int, bin_le_int, bin_ge_int, bin_band, bin_bor, bin_shl, bin_shr, bin_mod, bin_fdiv, bin_mul_int, bin_mul_lst, bin_mul_tup, un_not, un_inv, idx_tup, idx_lst, idx_str, idx_dic, slc_tup, slc_lst, slc_inp, prim_len_tup, prim_len_lst, prim_len_str, prim_int_int, prim_int_bl, prim_tuple_lst, prim_tuple_tup, prim_list_lst, prim_list_tup, prim_all, prim_any, prim_sum, prim_max2, prim_sorted, prim_lr, prim_abs, atI_0, atI_1, atI_2, cut_from1, items_tup, items_lst, items_rng1, items_enum_tup, items_zip_tup, mk_f, mk_t, LIM, cal_fn, cal_W, cal_meth, cal_init, guard_nil, guard_int, guard_tup, guard_lst, h2])
  rw [key, Option.bind_some]
  exact leaveF_py0 rfl
/-! ### rising -/
theorem ltD_str (a b : Str) : ltD (.str a) (.str b) = some (sLt a b) := by
  unfold ltD
  have h : W.dataLt (D.str a).py (D.str b).py = sLt a b := by
    unfold W.dataLt
    rw [D.py, D.py, W.keyToks, W.keyToks]
    show PyProof.Rows.lexLt PyProof.Rows.itemOrd [.inr a.cps.toList] [.inr b.cps.toList] = _
    rw [PyProof.Rows.lex_cons]
    unfold sLt
    cases PyProof.Rows.itemOrd.blt (.inr a.cps.toList) (.inr b.cps.toList) <;> cases PyProof.Rows.itemOrd.blt (.inr b.cps.toList) (.inr a.cps.toList) <;> rfl
  rw [h]
  simp [D.isPy, D.py, W.alike, dep_str, notNon]
theorem bin_lt_str (a b : Str) : bin .lt (.str a) (.str b) = some (.bl (sLt a b)) := by
  show (ltD (.str a) (.str b)).map D.bl = _
  rw [ltD_str]; rfl
theorem okRng_of {a b : Int} (h1 : -1000000 ≤ a) (h2 : a ≤ 1000000) (h3 : -1000000 ≤ b) (h4 : b ≤ 1000000) : okRng a b = true := by
  have e : (2 : Int) ^ 62 = 4611686018427387904 := by rfl
  unfold okRng
  simp only [Bool.and_eq_true, decide_eq_true_eq]
  refine ⟨⟨⟨⟨?_, ?_⟩, ?_⟩, ?_⟩, ?_⟩
  · rw [e]; omega
  · rw [e]; omega
  · rw [e]; omega
  · rw [e]; omega
  · unfold LIM; omega
def b1 : FD := ⟨1, 1, [
  .ret (.prim .all [(.comp false (.b2 .lt (.idx (.var 0) (.var 1)) (.idx (.var 0) (.b2 .add (.var 1) (.cst (.int 1))))) (.name 1) .rng1 [(.b2 .sub (.prim .len [(.var 0)]) (.cst (.int 1)))] [])])]⟩
theorem rising_spec {P : Prog} {i : Nat} (h : P.funs[i]? = some b1) (n : Nat) (cs : List Str) (S : Store) (h6 : cs.length ≤ 1000) (hs : cs.Pairwise fun a b => sLt a b = true) : run P (n + 1) i [.tup (cs.map .str)] S = some (.bl true, S) := by
  rw [run_eq h rfl]
  have key : (exs (cal P (run P n)) b1.body ([.tup (cs.map .str)].map some ++ List.replicate b1.nloc none) S) = some (.rt (.bl true), [some (.tup (cs.map .str)), none], S) := by
    show exs (cal P (run P n)) [_] [some (.tup (cs.map .str)), none] S = _
    rw [exs_rt (ex_ret (all_bl_true (List.range (((cs.length : Int) - 1 - 0).toNat)) ?_))]
    have ok : okRng 0 ((cs.length : Int) - 1) = true := by
      exact okRng_of (by omega) (by omega) (by omega) (by omega)
    rw [ev_comp (ds := [.int ((cs.length : Int) - 1)]) (S1 := S) (by (simp (decide := true) [exs, ex, ev, evs, evo, evc, bindT, bindL, getV, seqOf, de_str, de_int, de_bl, de_non, de_tup, de_lst, de_dic, de_inp, eqD_str, eqD_int, eqD_bl, bin_eq, bin_ne, bin_inn_tup, bin_inn_lst, bin_notin_tup, bin_notin_lst, bin_inn_str, bin_notin_str, bin_add_int, bin_sub_int, bin_add_tup, bin_add_lst, bin_lt_int, bin_gt_int, bin_le_int, bin_ge_int, bin_band, bin_bor, bin_shl, bin_shr, bin_mod, bin_fdiv, bin_mul_int, bin_mul_lst, bin_mul_tup, un_not, un_inv, idx_tup, idx_lst, idx_str, idx_dic, slc_tup, slc_lst, slc_inp, prim_len_tup, prim_len_lst, prim_len_str, prim_int_int, prim_int_bl, prim_tuple_lst, prim_tuple_tup, prim_list_lst, prim_list_tup, prim_all, prim_any, prim_sum, prim_max2, prim_sorted, prim_lr, prim_abs, atI_0, atI_1, atI_2, cut_from1, items_tup, items_lst, items_rng1, items_enum_tup, items_zip_tup, mk_f, mk_t, LIM, cal_fn, cal_W, cal_meth, cal_init, guard_nil, guard_int, guard_tup, guard_lst])) (by rw [items_rng1, if_pos ok])]
    unfold rng
    rw [compL_mapc (fun i : Nat => D.int (0 + (i : Nat))) (fun _ => D.bl true) rfl]
    · simp [mk_f, LIM]; omega
    · intro k hk
      rw [List.mem_range] at hk
      have k1 : k < cs.length := by omega
      have k2 : k + 1 < cs.length := by omega
      have i1 : L2.atI (cs.map D.str) ((0 : Int) + (k : Int)) = some (.str cs[k]) := by
        rw [Int.zero_add, atI_nat, List.getElem?_map, List.getElem?_eq_getElem k1]; rfl
      have i2 : L2.atI (cs.map D.str) ((0 : Int) + (k : Int) + 1) = some (.str cs[k + 1]) := by
        have e : (0 : Int) + (k : Int) + 1 = ((k + 1 : Nat) : Int) := by omega
        rw [e, atI_nat, List.getElem?_map, List.getElem?_eq_getElem k2]; rfl
      have hlt : sLt cs[k] cs[k + 1] = true := List.pairwise_iff_getElem.mp hs k (k + 1) k1 k2 (Nat.lt_succ_self _)
      have i1' : L2.atI (cs.map D.str) (k : Int) = some (.str cs[k]) := by rw [← Int.zero_add (k : Int)]; exact i1
      have i2' : L2.atI (cs.map D.str) ((k : Int) + 1) = some (.str cs[k + 1]) := by rw [← Int.zero_add (k : Int)]; exact i2
      (simp (decide := true) [exs, ex, ev, evs, evo, evc, bindT, bindL, getV, seqOf, de_str, de_int, de_bl, de_non, de_tup, de_lst, de_dic, de_inp, eqD_str, eqD_int, eqD_bl, bin_eq, bin_ne, bin_inn_tup, bin_inn_lst, bin_notin_tup, bin_notin_lst, bin_inn_str, bin_notin_str, bin_add_int, bin_sub_int, bin_add_tup, bin_add_lst, bin_lt_int, bin_gt_int, bin_le_int, bin_ge_int, bin_band, bin_bor, bin_shl, bin_shr, bin_mod, bin_fdiv, bin_mul_int, bin_mul_lst, bin_mul_tup, un_not, un_inv, idx_tup, idx_lst, idx_str, idx_dic, slc_tup, slc_lst, slc_inp, prim_len_tup, prim_len_lst, prim_len_str, prim_int_int, prim_int_bl, prim_tuple_lst, prim_tuple_tup, prim_list_lst, prim_list_tup, prim_all, prim_any, prim_sum, prim_max2, prim_sorted, prim_lr, prim_abs, atI_0, atI_1, atI_2, cut_from1, items_tup, items_lst, items_rng1, items_enum_tup, items_zip_tup, mk_f, mk_t, LIM, cal_fn, cal_W, cal_meth, cal_init, guard_nil, guard_int, guard_tup, guard_lst, i1', i2', bin_lt_str, hlt])
  rw [key, Option.bind_some]
  exact leaveF_py0 rfl
/-! ### check_conditions -/
structure BookOk (cs : List Str) (fs : List Fm) : Prop where
  n6 : cs.length ≤ 6
  nm : ∀ c ∈ cs, ClaimOk c
  srt : cs.Pairwise fun a b => sLt a b = true
  len : fs.length = cs.length
  wf : ∀ f ∈ fs, f.wf cs = true
  sz : ∀ f ∈ fs, f.parts ≤ 60 ∧ f.dep ≤ 10
abbrev bookD (cs : List Str) (fs : List Fm) : D := .tup [.tup (cs.map .str), .tup (Fm.encs fs)]
def b6 (o : Nat → Nat) : FD := ⟨1, 6, [
  .asg (.tup [1, 2]) (.var 0),
  .ife (.b2 .gt (.prim .len [(.var 1)]) (.cst (.int 6))) [.never] [],
  .for_ (.name 3) .seq [(.var 2)] [.asg (.tup [4, 5]) (.call (o 4) [(.var 3)]), .ife (.or (.b2 .gt (.var 4) (.cst (.int 60))) (.b2 .gt (.var 5) (.cst (.int 10)))) [.never] []],
  .ife (.or (.u1 .not (.prim .all [(.comp false (.call (o 0) [(.var 6)]) (.name 6) .seq [(.var 1)] [])])) (.or (.u1 .not (.call (o 1) [(.var 1)])) (.b2 .ne (.prim .len [(.var 2)]) (.prim .len [(.var 1)])))) [.never] [],
  .ife (.u1 .not (.prim .all [(.comp false (.call (o 5) [(.var 3), (.var 1)]) (.name 3) .seq [(.var 2)] [])])) [.never] [],
  .ret (.cst .non)]⟩
theorem book_spec {P : Prog} {o : Nat → Nat} (h0 : P.funs[o 0]? = some b0) (h1 : P.funs[o 1]? = some b1) (h3 : P.funs[o 3]? = some b3) (h4 : P.funs[o 4]? = some (b4 o)) (h5 : P.funs[o 5]? = some (b5 o)) (h6 : P.funs[o 6]? = some (b6 o))
    (n : Nat) (cs : List Str) (fs : List Fm) (S : Store) (ok : BookOk cs fs) : run P (n + 13) (o 6) [bookD cs fs] S = some (.non, S) := by
  rw [run_eq h6 rfl]
  have l6 : ¬ ((6 : Int) < (cs.length : Int)) := by have := ok.n6; omega
  have key : ∃ σ, (exs (cal P (run P (n + 12))) (b6 o).body ([bookD cs fs].map some ++ List.replicate (b6 o).nloc none) S) = some (.rt .non, σ, S) := by
    have loop := forL_inv (g := fun S' => guard S S' [.tup (Fm.encs fs)]) (t := .name 3) (body := fun σ S => exs (cal P (run P (n + 12))) [.asg (.tup [4, 5]) (.call (o 4) [(.var 3)]), .ife (.or (.b2 .gt (.var 4) (.cst (.int 60))) (.b2 .gt (.var 5) (.cst (.int 10)))) [.never] []] σ S) Fm.enc
      (fun r σ S' => S' = S ∧ (∀ g ∈ r, g ∈ fs) ∧ ∃ (x y z : Option D), σ = [some (bookD cs fs), some (.tup (cs.map .str)), some (.tup (Fm.encs fs)), x, y, z, none])
      (fun res => ∃ σ, res = some (.nx, σ, S) ∧ ∃ x y z, σ = [some (bookD cs fs), some (.tup (cs.map .str)), some (.tup (Fm.encs fs)), x, y, z, none])
      (xs := fs) (σ := [some (bookD cs fs), some (.tup (cs.map .str)), some (.tup (Fm.encs fs)), none, none, none, none]) (S := S)
      ⟨rfl, fun g hg => hg, none, none, none, rfl⟩
      (fun g r σ S' ⟨hS, hm, x, y, z, hσ⟩ => by
        subst hS hσ
        have hz := ok.sz g (hm g List.mem_cons_self)
        have e := measured_spec h3 h4 (n + 10) g S' (by omega)
        have q1 : ¬ ((60 : Int) < (g.parts : Int)) := by omega
        have q2 : ¬ ((10 : Int) < (g.dep : Int)) := by omega
        refine ⟨_, rfl, .inl ⟨[some (bookD cs fs), some (.tup (cs.map .str)), some (.tup (Fm.encs fs)), some g.enc, some (.int g.parts), some (.int g.dep), none], S', .inl ?_, rfl, rfl, fun g' hg' => hm g' (List.mem_cons_of_mem _ hg'), _, _, _, rfl⟩⟩
        (simp (decide := true) [exs, ex, ev, evs, evo, evc, bindT, bindL, getV, seqOf, de_str, de_int, de_bl, de_non, de_tup, de_lst, de_dic, de_inp, eqD_str, eqD_int, eqD_bl, bin_eq, bin_ne, bin_inn_tup, bin_inn_lst, bin_notin_tup, bin_notin_lst, bin_inn_str, bin_notin_str, bin_add_int, bin_sub_int, bin_add_tup, bin_add_lst, bin_lt_int, bin_gt_int, bin_le_int, bin_ge_int, bin_band, bin_bor, bin_shl, bin_shr, bin_mod, bin_fdiv, bin_mul_int, bin_mul_lst, bin_mul_tup, un_not, un_inv, idx_tup, idx_lst, idx_str, idx_dic, slc_tup, slc_lst, slc_inp, prim_len_tup, prim_len_lst, prim_len_str, prim_int_int, prim_int_bl, prim_tuple_lst, prim_tuple_tup, prim_list_lst, prim_list_tup, prim_all, prim_any, prim_sum, prim_max2, prim_sorted, prim_lr, prim_abs, atI_0, atI_1, atI_2, cut_from1, items_tup, items_lst, items_rng1, items_enum_tup, items_zip_tup, mk_f, mk_t, LIM, cal_fn, cal_W, cal_meth, cal_init, guard_nil, guard_int, guard_tup, guard_lst, e, q1, q2]))
      (fun σ S' ⟨hS, _, x, y, z, hσ⟩ => by
        subst hS hσ
        exact ⟨_, rfl, x, y, z, rfl⟩)
    obtain ⟨σ, e1, x, y, z, e2⟩ := loop
    subst e2
    rw [← Fm.encs_map] at e1
    generalize hσ : ([some (bookD cs fs), some (.tup (cs.map .str)), some (.tup (Fm.encs fs)), x, y, z, none] : Ev) = σ at e1
    refine ⟨σ, ?_⟩
    have g1 : getV σ 1 = some (.tup (cs.map .str)) := by rw [← hσ]; rfl
    have g2 : getV σ 2 = some (.tup (Fm.encs fs)) := by rw [← hσ]; rfl
    have a0 : ev (cal P (run P (n + 12))) (.prim .all [(.comp false (.call (o 0) [(.var 6)]) (.name 6) .seq [(.var 1)] [])]) σ S = some (.bl true, S) := by
      refine all_bl_true cs ?_
      rw [ev_comp (ds := [.tup (cs.map .str)]) (S1 := S) (evs_1 (by simp only [ev, g1, Option.map_some])) rfl, compL_mapc D.str (fun _ => D.bl true) rfl]
      · have := ok.n6
        simp [mk_f, LIM]; omega
      · intro c hc
        have e := claim_spec h0 (n + 11) c S (ok.nm c hc)
        rw [← hσ]
        (simp (decide := true) [exs, ex, ev, evs, evo, evc, bindT, bindL, getV, seqOf, de_str, de_int, de_bl, de_non, de_tup, de_lst, de_dic, de_inp, eqD_str, eqD_int, eqD_bl, bin_eq, bin_ne, bin_inn_tup, bin_inn_lst, bin_notin_tup, bin_notin_lst, bin_inn_str, bin_notin_str, bin_add_int, bin_sub_int, bin_add_tup, bin_add_lst, bin_lt_int, bin_gt_int, bin_le_int, bin_ge_int, bin_band, bin_bor, bin_shl, bin_shr, bin_mod, bin_fdiv, bin_mul_int, bin_mul_lst, bin_mul_tup, un_not, un_inv, idx_tup, idx_lst, idx_str, idx_dic, slc_tup, slc_lst, slc_inp, prim_len_tup, prim_len_lst, prim_len_str, prim_int_int, prim_int_bl, prim_tuple_lst, prim_tuple_tup, prim_list_lst, prim_list_tup, prim_all, prim_any, prim_sum, prim_max2, prim_sorted, prim_lr, prim_abs, atI_0, atI_1, atI_2, cut_from1, items_tup, items_lst, items_rng1, items_enum_tup, items_zip_tup, mk_f, mk_t, LIM, cal_fn, cal_W, cal_meth, cal_init, guard_nil, guard_int, guard_tup, guard_lst, e])
    have a1 : run P (n + 12) (o 1) [.tup (cs.map .str)] S = some (.bl true, S) := rising_spec h1 (n + 11) cs S (by have := ok.n6; omega) ok.srt
    have a5 : ev (cal P (run P (n + 12))) (.prim .all [(.comp false (.call (o 5) [(.var 3), (.var 1)]) (.name 3) .seq [(.var 2)] [])]) σ S = some (.bl true, S) := by
      refine all_bl_true fs ?_
      rw [ev_comp (ds := [.tup (Fm.encs fs)]) (S1 := S) (evs_1 (by simp only [ev, g2, Option.map_some])) rfl, Fm.encs_map, compL_mapc Fm.enc (fun _ => D.bl true) rfl]
      · have := ok.n6
        have := ok.len
        simp [mk_f, LIM]; omega
      · intro f hf
        have e := formula_spec h3 h5 cs (n + 10) f S (by have := (ok.sz f hf).2; omega) (by have := (ok.sz f hf).1; omega) (ok.wf f hf)
        rw [← hσ]
        (simp (decide := true) [exs, ex, ev, evs, evo, evc, bindT, bindL, getV, seqOf, de_str, de_int, de_bl, de_non, de_tup, de_lst, de_dic, de_inp, eqD_str, eqD_int, eqD_bl, bin_eq, bin_ne, bin_inn_tup, bin_inn_lst, bin_notin_tup, bin_notin_lst, bin_inn_str, bin_notin_str, bin_add_int, bin_sub_int, bin_add_tup, bin_add_lst, bin_lt_int, bin_gt_int, bin_le_int, bin_ge_int, bin_band, bin_bor, bin_shl, bin_shr, bin_mod, bin_fdiv, bin_mul_int, bin_mul_lst, bin_mul_tup, un_not, un_inv, idx_tup, idx_lst, idx_str, idx_dic, slc_tup, slc_lst, slc_inp, prim_len_tup, prim_len_lst, prim_len_str, prim_int_int, prim_int_bl, prim_tuple_lst, prim_tuple_tup, prim_list_lst, prim_list_tup, prim_all, prim_any, prim_sum, prim_max2, prim_sorted, prim_lr, prim_abs, atI_0, atI_1, atI_2, cut_from1, items_tup, items_lst, items_rng1, items_enum_tup, items_zip_tup, mk_f, mk_t, LIM, cal_fn, cal_W, cal_meth, cal_init, guard_nil, guard_int, guard_tup, guard_lst, e])
    have hlen : (Fm.encs fs).length = cs.length := by rw [Fm.encs_length, ok.len]
    show exs (cal P (run P (n + 12))) [_, _, _, _, _, _] [some (bookD cs fs), none, none, none, none, none, none] S = _
    rw [exs_nx (σ' := [some (bookD cs fs), some (.tup (cs.map .str)), some (.tup (Fm.encs fs)), none, none, none, none]) (S' := S) (by simp only [bookD]; (simp (decide := true) [exs, ex, ev, evs, evo, evc, bindT, bindL, getV, seqOf, de_str, de_int, de_bl, de_non, de_tup, de_lst, de_dic, de_inp, eqD_str, eqD_int, eqD_bl, bin_eq, bin_ne, bin_inn_tup, bin_inn_lst, bin_notin_tup, bin_notin_lst, bin_inn_str, bin_notin_str, bin_add_int, bin_sub_int, bin_add_tup, bin_add_lst, bin_lt_int, bin_gt_int, bin_le_int, bin_ge_int, bin_band, bin_bor, bin_shl, bin_shr, bin_mod, bin_fdiv, bin_mul_int, bin_mul_lst, bin_mul_tup, un_not, un_inv, idx_tup, idx_lst, idx_str, idx_dic, slc_tup, slc_lst, slc_inp, prim_len_tup, prim_len_lst, prim_len_str, prim_int_int, prim_int_bl, prim_tuple_lst, prim_tuple_tup, prim_list_lst, prim_list_tup, prim_all, prim_any, prim_sum, prim_max2, prim_sorted, prim_lr, prim_abs, atI_0, atI_1, atI_2, cut_from1, items_tup, items_lst, items_rng1, items_enum_tup, items_zip_tup, mk_f, mk_t, LIM, cal_fn, cal_W, cal_meth, cal_init, guard_nil, guard_int, guard_tup, guard_lst])),
      exs_nx (σ' := [some (bookD cs fs), some (.tup (cs.map .str)), some (.tup (Fm.encs fs)), none, none, none, none]) (S' := S) (by (simp (decide := true) [exs, ex, ev, evs, evo, evc, bindT, bindL, getV, seqOf, de_str, de_int, de_bl, de_non, de_tup, de_lst, de_dic, de_inp, eqD_str, eqD_int, eqD_bl, bin_eq, bin_ne, bin_inn_tup, bin_inn_lst, bin_notin_tup, bin_notin_lst, bin_inn_str, bin_notin_str, bin_add_int, bin_sub_int, bin_add_tup, bin_add_lst, bin_lt_int, bin_gt_int, bin_le_int, bin_ge_int, bin_band, bin_bor, bin_shl, bin_shr, bin_mod, bin_fdiv, bin_mul_int, bin_mul_lst, bin_mul_tup, un_not, un_inv, idx_tup, idx_lst, idx_str, idx_dic, slc_tup, slc_lst, slc_inp, prim_len_tup, prim_len_lst, prim_len_str, prim_int_int, prim_int_bl, prim_tuple_lst, prim_tuple_tup, prim_list_lst, prim_list_tup, prim_all, prim_any, prim_sum, prim_max2, prim_sorted, prim_lr, prim_abs, atI_0, atI_1, atI_2, cut_from1, items_tup, items_lst, items_rng1, items_enum_tup, items_zip_tup, mk_f, mk_t, LIM, cal_fn, cal_W, cal_meth, cal_init, guard_nil, guard_int, guard_tup, guard_lst, l6])),
      exs_nx (σ' := σ) (S' := S) (by rw [ex_for (ds := [.tup (Fm.encs fs)]) (S1 := S) (by (simp (decide := true) [exs, ex, ev, evs, evo, evc, bindT, bindL, getV, seqOf, de_str, de_int, de_bl, de_non, de_tup, de_lst, de_dic, de_inp, eqD_str, eqD_int, eqD_bl, bin_eq, bin_ne, bin_inn_tup, bin_inn_lst, bin_notin_tup, bin_notin_lst, bin_inn_str, bin_notin_str, bin_add_int, bin_sub_int, bin_add_tup, bin_add_lst, bin_lt_int, bin_gt_int, bin_le_int, bin_ge_int, bin_band, bin_bor, bin_shl, bin_shr, bin_mod, bin_fdiv, bin_mul_int, bin_mul_lst, bin_mul_tup, un_not, un_inv, idx_tup, idx_lst, idx_str, idx_dic, slc_tup, slc_lst, slc_inp, prim_len_tup, prim_len_lst, prim_len_str, prim_int_int, prim_int_bl, prim_tuple_lst, prim_tuple_tup, prim_list_lst, prim_list_tup, prim_all, prim_any, prim_sum, prim_max2, prim_sorted, prim_lr, prim_abs, atI_0, atI_1, atI_2, cut_from1, items_tup, items_lst, items_rng1, items_enum_tup, items_zip_tup, mk_f, mk_t, LIM, cal_fn, cal_W, cal_meth, cal_init, guard_nil, guard_int, guard_tup, guard_lst])) rfl]; exact e1),
      exs_nx (σ' := σ) (S' := S) (by
        rw [ex_if_f (S1 := S)]
        · exact exs_nil
        · rw [ev, ev, a0]
          simp only [Option.bind_some, Option.map_some, un_not, Bool.not_true]
          rw [ev, ev, ev, evs_1 (d := .tup (cs.map .str)) (S1 := S) (by simp only [ev, g1, Option.map_some])]
          simp only [Option.bind_some, cal_fn, a1, Option.map_some, un_not, Bool.not_true]
          simp only [ev, evs, g1, g2, Option.map_some, Option.bind_some, List.map_cons, List.map_nil, de_tup, prim_len_tup, de_int, bin_ne, eqD_int, hlen, List.length_map, decide_true, Bool.not_true]),
      exs_nx (σ' := σ) (S' := S) (by
        rw [ex_if_f (S1 := S)]
        · exact exs_nil
        · rw [ev, a5]
          rfl),
      exs_rt (ex_ret rfl)]
  obtain ⟨σ, key⟩ := key
  rw [key, Option.bind_some]
  exact leaveF_py0 rfl
end Fw
end
section
set_option Elab.async false
set_option linter.all false
set_option autoImplicit false
set_option maxRecDepth 10000
set_option maxHeartbeats 2000000
/-! Pl6: the object of conditions: holds, allowed, after. -/
namespace Fw
open PySem
mutual
def Fm.val (a : Str → Bool) : Fm → Bool
  | .tt => true
  | .ff => false
  | .cl c => a c
  | .nt f => !f.val a
  | .nn b fs => if b then (Fm.vals a fs).all id else (Fm.vals a fs).any id
def Fm.vals (a : Str → Bool) : List Fm → List Bool
  | [] => []
  | f :: fs => f.val a :: Fm.vals a fs
end
theorem Fm.vals_map (a : Str → Bool) : ∀ fs : List Fm, Fm.vals a fs = fs.map (Fm.val a)
  | [] => rfl
  | f :: fs => by rw [Fm.vals, Fm.vals_map a fs]; rfl
/-- what a choice says -/
def asg (cs : List Str) (c : Nat) (s : Str) : Bool := c.testBit (cs.idxOf s)
def placesL : Nat → List Str → List (D × D)
  | _, [] => []
  | k, c :: r => (.str c, .int (k : Nat)) :: placesL (k + 1) r
theorem places_look {s : Str} : ∀ {cs : List Str} {k : Nat}, s ∈ cs → lookD (.inr s) (placesL k cs) = some (.int ((k + cs.idxOf s : Nat) : Int))
  | c :: r, k, h => by
    unfold placesL lookD
    by_cases e : c = s
    · subst e
      simp [keyD, List.idxOf_cons_self]
    · have hm : s ∈ r := by
        rcases List.mem_cons.mp h with w | w
        · exact absurd w.symm e
        · exact w
      have h1 : ¬ keyD (.str c) = some (.inr s) := by simp [keyD, e]
      have e' : (c == s) = false := by simpa using e
      rw [if_neg h1, places_look hm, List.idxOf_cons, e']
      simp only [cond_false, Option.some.injEq, D.int.injEq]
      omega
theorem bit_at (c k : Nat) : decide (PySem.Builtin.bitAnd ((c : Int) / 2 ^ k) 1 = 1) = c.testBit k := by
  have h : ((c : Int) / 2 ^ k) = ((c / 2 ^ k : Nat) : Int) := by
    rw [Int.natCast_ediv, Int.natCast_pow]; rfl
  rw [h, PyProof.Rows.bitAnd_m1, Nat.testBit_eq_decide_div_mod_eq]
  congr 1
  rw [show (((c / 2 ^ k : Nat) : Int) % 2) = ((c / 2 ^ k % 2 : Nat) : Int) by omega]
  apply propext
  omega
/-- holds -/
def b10 (o : Nat → Nat) : FD := ⟨3, 3, [
  .asg (.name 3) (.idx (.var 1) (.cst (.int 0))),
  .ife (.b2 .inn (.var 3) (.cst (.tup [(.str "true"), (.str "false")]))) [.ret (.b2 .eq (.var 3) (.cst (.str "true")))] [],
  .ife (.b2 .eq (.var 3) (.cst (.str "claim"))) [.ret (.b2 .eq (.b2 .band (.b2 .shr (.var 2) (.idx (.fld (.var 0) "places") (.idx (.var 1) (.cst (.int 1))))) (.cst (.int 1))) (.cst (.int 1)))] [],
  .asg (.name 4) (.comp false (.meth (.var 0) "holds" [(.var 5), (.var 2)]) (.name 5) .seq [(.call (o 3) [(.var 1)])] []),
  .ret (.ite (.b2 .eq (.var 3) (.cst (.str "not"))) (.u1 .not (.idx (.var 4) (.cst (.int 0)))) (.ite (.b2 .eq (.var 3) (.cst (.str "and"))) (.prim .all [(.var 4)]) (.prim .any [(.var 4)])))]⟩
theorem Fm.inners_short {f : Fm} (hp : f.parts ≤ 1000) : f.inners.length ≤ 1000 ∧ ∀ g ∈ f.inners, g.parts ≤ 1000 := by
  have h1 : ∀ fs : List Fm, fs.length ≤ Fm.partss fs ∧ ∀ g ∈ fs, g.parts ≤ Fm.partss fs := by
    intro fs
    induction fs with
    | nil => exact ⟨Nat.le_refl _, fun g h => by cases h⟩
    | cons f fs ih =>
      have hf : 1 ≤ f.parts := by rw [Fm.parts_inners]; omega
      refine ⟨by rw [Fm.partss, List.length_cons]; omega, fun g hg => ?_⟩
      rw [Fm.partss]
      rcases List.mem_cons.mp hg with e | h
      · subst e; omega
      · have := ih.2 g h; omega
  rw [Fm.parts_inners] at hp
  exact ⟨by have := (h1 f.inners).1; omega, fun g hg => by have := (h1 f.inners).2 g hg; omega⟩
theorem holds_spec {P : Prog} {o : Nat → Nat} {cc : Nat} (h3 : P.funs[o 3]? = some b3) (h10 : P.funs[o 10]? = some (b10 o)) (hm : (P.meths[cc]?).bind (lookM "holds") = some (o 10)) (cs : List Str) (h6 : cs.length ≤ 1000)
    (S : Store) (r : Nat) (flds : List (Str × D)) (hS : S[r]? = some (.ins cc flds)) (hp : lookF "places" flds = some (.dic (placesL 0 cs))) (hh : lookF "holds" flds = none) (c : Nat) :
    ∀ (n : Nat) (f : Fm), f.dep ≤ n → f.parts ≤ 1000 → f.wf cs = true → run P (n + 2) (o 10) [.ref r, f.enc, .int c] S = some (.bl (f.val (asg cs c)), S) := by
  intro n
  induction n using Nat.strongRecOn with
  | _ n ih =>
  intro f hd hpp hw
  rw [run_eq h10 rfl]
  have m : ∀ x : Str, memD (.str x) [.str "true", .str "false"] = some (decide (x ∈ (["true", "false"] : List Str))) := fun x => memD_strs x ["true", "false"]
  have e3 := inner_spec h3 n f S
  have comp : ∀ (w : Str) (x : Option D), ev (cal P (run P (n + 1))) (.comp false (.meth (.var 0) "holds" [(.var 5), (.var 2)]) (.name 5) .seq [(.call (o 3) [(.var 1)])] []) [some (.ref r), some f.enc, some (.int c), some (.str w), x, none] S = some (.lst (f.inners.map fun g => .bl (g.val (asg cs c))), S) := fun w x => by
    rw [ev_comp (ds := [.tup (Fm.encs f.inners)]) (S1 := S) (xs := Fm.encs f.inners) (by (simp (decide := true) [exs, ex, ev, evs, evo, evc, bindT, bindL, getV, seqOf, de_str, de_int, de_bl, de_non, de_tup, de_lst, de_dic, de_inp, eqD_str, eqD_int, eqD_bl, bin_eq, bin_ne, bin_inn_tup, bin_inn_lst, bin_notin_tup, bin_notin_lst, bin_inn_str, bin_notin_str, bin_add_int, bin_sub_int, bin_add_tup, bin_add_lst, bin_lt_int, bin_gt_int, bin_le_int, bin_ge_int, bin_band, bin_bor, bin_shl, bin_shr, bin_mod, bin_fdiv, bin_mul_int, bin_mul_lst, bin_mul_tup, un_not, un_inv, idx_tup, idx_lst, idx_str, idx_dic, slc_tup, slc_lst, slc_inp, prim_len_tup, prim_len_lst, prim_len_str, prim_int_int, prim_int_bl, prim_tuple_lst, prim_tuple_tup, prim_list_lst, prim_list_tup, prim_all, prim_any, prim_sum, prim_max2, prim_sorted, prim_lr, prim_abs, atI_0, atI_1, atI_2, cut_from1, items_tup, items_lst, items_rng1, items_enum_tup, items_zip_tup, mk_f, mk_t, LIM, cal_fn, cal_W, cal_meth, cal_init, guard_nil, guard_int, guard_tup, guard_lst, e3])) rfl, Fm.encs_map, compL_mapc Fm.enc (fun g => D.bl (g.val (asg cs c))) rfl]
    · have := (Fm.inners_short hpp).1
      simp [mk_f, LIM]; omega
    · intro g hg
      have hgd := Fm.deps_mem hg
      rw [← Fm.dep_inners] at hgd
      obtain ⟨m', rfl⟩ : ∃ m', n = m' + 1 := ⟨n - 1, by omega⟩
      have e := ih m' (by omega) g (by omega) ((Fm.inners_short hpp).2 g hg) (Fm.wf_inners hw hg)
      (simp (decide := true) [exs, ex, ev, evs, evo, evc, bindT, bindL, getV, seqOf, de_str, de_int, de_bl, de_non, de_tup, de_lst, de_dic, de_inp, eqD_str, eqD_int, eqD_bl, bin_eq, bin_ne, bin_inn_tup, bin_inn_lst, bin_notin_tup, bin_notin_lst, bin_inn_str, bin_notin_str, bin_add_int, bin_sub_int, bin_add_tup, bin_add_lst, bin_lt_int, bin_gt_int, bin_le_int, bin_ge_int, bin_band, bin_bor, bin_shl, bin_shr, bin_mod, bin_fdiv, bin_mul_int, bin_mul_lst, bin_mul_tup, un_not, un_inv, idx_tup, idx_lst, idx_str, idx_dic, slc_tup, slc_lst, slc_inp, prim_len_tup, prim_len_lst, prim_len_str, prim_int_int, prim_int_bl, prim_tuple_lst, prim_tuple_tup, prim_list_lst, prim_list_tup, prim_all, prim_any, prim_sum, prim_max2, prim_sorted, prim_lr, prim_abs, atI_0, atI_1, atI_2, cut_from1, items_tup, items_lst, items_rng1, items_enum_tup, items_zip_tup, mk_f, mk_t, LIM, cal_fn, cal_W, cal_meth, cal_init, guard_nil, guard_int, guard_tup, guard_lst, hS, hh, hm, e])
  have key : ∃ σ, (exs (cal P (run P (n + 1))) (b10 o).body ([.ref r, f.enc, .int c].map some ++ List.replicate (b10 o).nloc none) S) = some (.rt (.bl (f.val (asg cs c))), σ, S) := by
    cases f with
    | tt => simp only [b10, Fm.enc]; (simp (decide := true) [exs, ex, ev, evs, evo, evc, bindT, bindL, getV, seqOf, de_str, de_int, de_bl, de_non, de_tup, de_lst, de_dic, de_inp, eqD_str, eqD_int, eqD_bl, bin_eq, bin_ne, bin_inn_tup, bin_inn_lst, bin_notin_tup, bin_notin_lst, bin_inn_str, bin_notin_str, bin_add_int, bin_sub_int, bin_add_tup, bin_add_lst, bin_lt_int, bin_gt_int, bin_le_int, bin_ge_int, bin_band, bin_bor, bin_shl, bin_shr, bin_mod, bin_fdiv, bin_mul_int, bin_mul_lst, bin_mul_tup, un_not, un_inv, idx_tup, idx_lst, idx_str, idx_dic, slc_tup, slc_lst, slc_inp, prim_len_tup, prim_len_lst, prim_len_str, prim_int_int, prim_int_bl, prim_tuple_lst, prim_tuple_tup, prim_list_lst, prim_list_tup, prim_all, prim_any, prim_sum, prim_max2, prim_sorted, prim_lr, prim_abs, atI_0, atI_1, atI_2, cut_from1, items_tup, items_lst, items_rng1, items_enum_tup, items_zip_tup, mk_f, mk_t, LIM, cal_fn, cal_W, cal_meth, cal_init, guard_nil, guard_int, guard_tup, guard_lst, m, Fm.val])
    | ff => simp only [b10, Fm.enc]; (simp (decide := true) [exs, ex, ev, evs, evo, evc, bindT, bindL, getV, seqOf, de_str, de_int, de_bl, de_non, de_tup, de_lst, de_dic, de_inp, eqD_str, eqD_int, eqD_bl, bin_eq, bin_ne, bin_inn_tup, bin_inn_lst, bin_notin_tup, bin_notin_lst, bin_inn_str, bin_notin_str, bin_add_int, bin_sub_int, bin_add_tup, bin_add_lst, bin_lt_int, bin_gt_int, bin_le_int, bin_ge_int, bin_band, bin_bor, bin_shl, bin_shr, bin_mod, bin_fdiv, bin_mul_int, bin_mul_lst, bin_mul_tup, un_not, un_inv, idx_tup, idx_lst, idx_str, idx_dic, slc_tup, slc_lst, slc_inp, prim_len_tup, prim_len_lst, prim_len_str, prim_int_int, prim_int_bl, prim_tuple_lst, prim_tuple_tup, prim_list_lst, prim_list_tup, prim_all, prim_any, prim_sum, prim_max2, prim_sorted, prim_lr, prim_abs, atI_0, atI_1, atI_2, cut_from1, items_tup, items_lst, items_rng1, items_enum_tup, items_zip_tup, mk_f, mk_t, LIM, cal_fn, cal_W, cal_meth, cal_init, guard_nil, guard_int, guard_tup, guard_lst, m, Fm.val])
    | cl s =>
      simp only [Fm.wf, decide_eq_true_eq] at hw
      have hl := places_look (k := 0) hw
      rw [Nat.zero_add] at hl
      have hk : ((cs.idxOf s : Nat) : Int) ≤ 1000000 := by
        have := List.idxOf_lt_length_of_mem hw
        omega
      have hk0 : (0 : Int) ≤ ((cs.idxOf s : Nat) : Int) := by omega
      have hb := bit_at c (cs.idxOf s)
      simp only [b10, Fm.enc]
      (simp (decide := true) [exs, ex, ev, evs, evo, evc, bindT, bindL, getV, seqOf, de_str, de_int, de_bl, de_non, de_tup, de_lst, de_dic, de_inp, eqD_str, eqD_int, eqD_bl, bin_eq, bin_ne, bin_inn_tup, bin_inn_lst, bin_notin_tup, bin_notin_lst, bin_inn_str, bin_notin_str, bin_add_int, bin_sub_int, bin_add_tup, bin_add_lst, bin_lt_int, bin_gt_int, bin_le_int, bin_ge_int, bin_band, bin_bor, bin_shl, bin_shr, bin_mod, bin_fdiv, bin_mul_int, bin_mul_lst, bin_mul_tup, un_not, un_inv, idx_tup, idx_lst, idx_str, idx_dic, slc_tup, slc_lst, slc_inp, prim_len_tup, prim_len_lst, prim_len_str, prim_int_int, prim_int_bl, prim_tuple_lst, prim_tuple_tup, prim_list_lst, prim_list_tup, prim_all, prim_any, prim_sum, prim_max2, prim_sorted, prim_lr, prim_abs, atI_0, atI_1, atI_2, cut_from1, items_tup, items_lst, items_rng1, items_enum_tup, items_zip_tup, mk_f, mk_t, LIM, cal_fn, cal_W, cal_meth, cal_init, guard_nil, guard_int, guard_tup, guard_lst, m, hS, hp, keyD, hl, Fm.val, asg])
      simpa using hb
    | nt f =>
      refine ⟨[some (.ref r), some (Fm.nt f).enc, some (.int c), some (.str "not"), some (.lst ((Fm.nt f).inners.map fun g => .bl (g.val (asg cs c)))), none], ?_⟩
      have c1 : ev (cal P (run P (n + 1))) (.ite (.b2 .eq (.var 3) (.cst (.str "not"))) (.u1 .not (.idx (.var 4) (.cst (.int 0)))) (.ite (.b2 .eq (.var 3) (.cst (.str "and"))) (.prim .all [(.var 4)]) (.prim .any [(.var 4)]))) [some (.ref r), some (Fm.nt f).enc, some (.int c), some (.str "not"), some (.lst ((Fm.nt f).inners.map fun g => .bl (g.val (asg cs c)))), none] S = some (.bl ((Fm.nt f).val (asg cs c)), S) := by (simp (decide := true) [exs, ex, ev, evs, evo, evc, bindT, bindL, getV, seqOf, de_str, de_int, de_bl, de_non, de_tup, de_lst, de_dic, de_inp, eqD_str, eqD_int, eqD_bl, bin_eq, bin_ne, bin_inn_tup, bin_inn_lst, bin_notin_tup, bin_notin_lst, bin_inn_str, bin_notin_str, bin_add_int, bin_sub_int, bin_add_tup, bin_add_lst, bin_lt_int, bin_gt_int, bin_le_int, bin_ge_int, bin_band, bin_bor, bin_shl, bin_shr, bin_mod, bin_fdiv, bin_mul_int, bin_mul_lst, bin_mul_tup, un_not, un_inv, idx_tup, idx_lst, idx_str, idx_dic, slc_tup, slc_lst, slc_inp, prim_len_tup, prim_len_lst, prim_len_str, prim_int_int, prim_int_bl, prim_tuple_lst, prim_tuple_tup, prim_list_lst, prim_list_tup, prim_all, prim_any, prim_sum, prim_max2, prim_sorted, prim_lr, prim_abs, atI_0, atI_1, atI_2, cut_from1, items_tup, items_lst, items_rng1, items_enum_tup, items_zip_tup, mk_f, mk_t, LIM, cal_fn, cal_W, cal_meth, cal_init, guard_nil, guard_int, guard_tup, guard_lst, Fm.inners, Fm.val])
      have c0 := comp "not" none
      show exs (cal P (run P (n + 1))) [_, _, _, _, _] [some (.ref r), some (Fm.nt f).enc, some (.int c), none, none, none] S = _
      rw [exs_nx (σ' := [some (.ref r), some (Fm.nt f).enc, some (.int c), some (.str "not"), none, none]) (S' := S) (by simp only [Fm.enc]; (simp (decide := true) [exs, ex, ev, evs, evo, evc, bindT, bindL, getV, seqOf, de_str, de_int, de_bl, de_non, de_tup, de_lst, de_dic, de_inp, eqD_str, eqD_int, eqD_bl, bin_eq, bin_ne, bin_inn_tup, bin_inn_lst, bin_notin_tup, bin_notin_lst, bin_inn_str, bin_notin_str, bin_add_int, bin_sub_int, bin_add_tup, bin_add_lst, bin_lt_int, bin_gt_int, bin_le_int, bin_ge_int, bin_band, bin_bor, bin_shl, bin_shr, bin_mod, bin_fdiv, bin_mul_int, bin_mul_lst, bin_mul_tup, un_not, un_inv, idx_tup, idx_lst, idx_str, idx_dic, slc_tup, slc_lst, slc_inp, prim_len_tup, prim_len_lst, prim_len_str, prim_int_int, prim_int_bl, prim_tuple_lst, prim_tuple_tup, prim_list_lst, prim_list_tup, prim_all, prim_any, prim_sum, prim_max2, prim_sorted, prim_lr, prim_abs, atI_0, atI_1, atI_2, cut_from1, items_tup, items_lst, items_rng1, items_enum_tup, items_zip_tup, mk_f, mk_t, LIM, cal_fn, cal_W, cal_meth, cal_init, guard_nil, guard_int, guard_tup, guard_lst])), exs_nx (σ' := [some (.ref r), some (Fm.nt f).enc, some (.int c), some (.str "not"), none, none]) (S' := S) (by (simp (decide := true) [exs, ex, ev, evs, evo, evc, bindT, bindL, getV, seqOf, de_str, de_int, de_bl, de_non, de_tup, de_lst, de_dic, de_inp, eqD_str, eqD_int, eqD_bl, bin_eq, bin_ne, bin_inn_tup, bin_inn_lst, bin_notin_tup, bin_notin_lst, bin_inn_str, bin_notin_str, bin_add_int, bin_sub_int, bin_add_tup, bin_add_lst, bin_lt_int, bin_gt_int, bin_le_int, bin_ge_int, bin_band, bin_bor, bin_shl, bin_shr, bin_mod, bin_fdiv, bin_mul_int, bin_mul_lst, bin_mul_tup, un_not, un_inv, idx_tup, idx_lst, idx_str, idx_dic, slc_tup, slc_lst, slc_inp, prim_len_tup, prim_len_lst, prim_len_str, prim_int_int, prim_int_bl, prim_tuple_lst, prim_tuple_tup, prim_list_lst, prim_list_tup, prim_all, prim_any, prim_sum, prim_max2, prim_sorted, prim_lr, prim_abs, atI_0, atI_1, atI_2, cut_from1, items_tup, items_lst, items_rng1, items_enum_tup, items_zip_tup, mk_f, mk_t, LIM, cal_fn, cal_W, cal_meth, cal_init, guard_nil, guard_int, guard_tup, guard_lst, m])), exs_nx (σ' := [some (.ref r), some (Fm.nt f).enc, some (.int c), some (.str "not"), none, none]) (S' := S) (by (simp (decide := true) [exs, ex, ev, evs, evo, evc, bindT, bindL, getV, seqOf, de_str, de_int, de_bl, de_non, de_tup, de_lst, de_dic, de_inp, eqD_str, eqD_int, eqD_bl, bin_eq, bin_ne, bin_inn_tup, bin_inn_lst, bin_notin_tup, bin_notin_lst, bin_inn_str, bin_notin_str, bin_add_int, bin_sub_int, bin_add_tup, bin_add_lst, bin_lt_int, bin_gt_int, bin_le_int, bin_ge_int, bin_band, bin_bor, bin_shl, bin_shr, bin_mod, bin_fdiv, bin_mul_int, bin_mul_lst, bin_mul_tup, un_not, un_inv, idx_tup, idx_lst, idx_str, idx_dic, slc_tup, slc_lst, slc_inp, prim_len_tup, prim_len_lst, prim_len_str, prim_int_int, prim_int_bl, prim_tuple_lst, prim_tuple_tup, prim_list_lst, prim_list_tup, prim_all, prim_any, prim_sum, prim_max2, prim_sorted, prim_lr, prim_abs, atI_0, atI_1, atI_2, cut_from1, items_tup, items_lst, items_rng1, items_enum_tup, items_zip_tup, mk_f, mk_t, LIM, cal_fn, cal_W, cal_meth, cal_init, guard_nil, guard_int, guard_tup, guard_lst])), exs_nx (σ' := [some (.ref r), some (Fm.nt f).enc, some (.int c), some (.str "not"), some (.lst ((Fm.nt f).inners.map fun g => .bl (g.val (asg cs c)))), none]) (S' := S) (ex_asg c0 rfl), exs_rt (ex_ret c1)]
    | nn b fs =>
      cases b with
      | true =>
        have c1 : ev (cal P (run P (n + 1))) (.ite (.b2 .eq (.var 3) (.cst (.str "not"))) (.u1 .not (.idx (.var 4) (.cst (.int 0)))) (.ite (.b2 .eq (.var 3) (.cst (.str "and"))) (.prim .all [(.var 4)]) (.prim .any [(.var 4)]))) [some (.ref r), some (Fm.nn true fs).enc, some (.int c), some (.str "and"), some (.lst ((Fm.nn true fs).inners.map fun g => .bl (g.val (asg cs c)))), none] S = some (.bl ((Fm.nn true fs).val (asg cs c)), S) := by (simp (decide := true) [exs, ex, ev, evs, evo, evc, bindT, bindL, getV, seqOf, de_str, de_int, de_bl, de_non, de_tup, de_lst, de_dic, de_inp, eqD_str, eqD_int, eqD_bl, bin_eq, bin_ne, bin_inn_tup, bin_inn_lst, bin_notin_tup, bin_notin_lst, bin_inn_str, bin_notin_str, bin_add_int, bin_sub_int, bin_add_tup, bin_add_lst, bin_lt_int, bin_gt_int, bin_le_int, bin_ge_int, bin_band, bin_bor, bin_shl, bin_shr, bin_mod, bin_fdiv, bin_mul_int, bin_mul_lst, bin_mul_tup, un_not, un_inv, idx_tup, idx_lst, idx_str, idx_dic, slc_tup, slc_lst, slc_inp, prim_len_tup, prim_len_lst, prim_len_str, prim_int_int, prim_int_bl, prim_tuple_lst, prim_tuple_tup, prim_list_lst, prim_list_tup, prim_all, prim_any, prim_sum, prim_max2, prim_sorted, prim_lr, prim_abs, atI_0, atI_1, atI_2, cut_from1, items_tup, items_lst, items_rng1, items_enum_tup, items_zip_tup, mk_f, mk_t, LIM, cal_fn, cal_W, cal_meth, cal_init, guard_nil, guard_int, guard_tup, guard_lst, boolsOf_map, Fm.inners, Fm.val, Fm.vals_map])
        have c0 := comp "and" none
        refine ⟨[some (.ref r), some (Fm.nn true fs).enc, some (.int c), some (.str "and"), some (.lst ((Fm.nn true fs).inners.map fun g => .bl (g.val (asg cs c)))), none], ?_⟩
        show exs (cal P (run P (n + 1))) [_, _, _, _, _] [some (.ref r), some (Fm.nn true fs).enc, some (.int c), none, none, none] S = _
        rw [exs_nx (σ' := [some (.ref r), some (Fm.nn true fs).enc, some (.int c), some (.str "and"), none, none]) (S' := S) (by simp only [Fm.enc]; (simp (decide := true) [exs, ex, ev, evs, evo, evc, bindT, bindL, getV, seqOf, de_str, de_int, de_bl, de_non, de_tup, de_lst, de_dic, de_inp, eqD_str, eqD_int, eqD_bl, bin_eq, bin_ne, bin_inn_tup, bin_inn_lst, bin_notin_tup, bin_notin_lst, bin_inn_str, bin_notin_str, bin_add_int, bin_sub_int, bin_add_tup, bin_add_lst, bin_lt_int, bin_gt_int, bin_le_int, bin_ge_int, bin_band, bin_bor, bin_shl, bin_shr, bin_mod, bin_fdiv, bin_mul_int, bin_mul_lst, bin_mul_tup, un_not, un_inv, idx_tup, idx_lst, idx_str, idx_dic, slc_tup, slc_lst, slc_inp, prim_len_tup, prim_len_lst, prim_len_str, prim_int_int, prim_int_bl, prim_tuple_lst, prim_tuple_tup, prim_list_lst, prim_list_tup, prim_all, prim_any, prim_sum, prim_max2, prim_sorted, prim_lr, prim_abs, atI_0, atI_1, atI_2, cut_from1, items_tup, items_lst, items_rng1, items_enum_tup, items_zip_tup, mk_f, mk_t, LIM, cal_fn, cal_W, cal_meth, cal_init, guard_nil, guard_int, guard_tup, guard_lst])), exs_nx (σ' := [some (.ref r), some (Fm.nn true fs).enc, some (.int c), some (.str "and"), none, none]) (S' := S) (by (simp (decide := true) [exs, ex, ev, evs, evo, evc, bindT, bindL, getV, seqOf, de_str, de_int, de_bl, de_non, de_tup, de_lst, de_dic, de_inp, eqD_str, eqD_int, eqD_bl, bin_eq, bin_ne, bin_inn_tup, bin_inn_lst, bin_notin_tup, bin_notin_lst, bin_inn_str, bin_notin_str, bin_add_int, bin_sub_int, bin_add_tup, bin_add_lst, bin_lt_int, bin_gt_int, bin_le_int, bin_ge_int, bin_band, bin_bor, bin_shl, bin_shr, bin_mod, bin_fdiv, bin_mul_int, bin_mul_lst, bin_mul_tup, un_not, un_inv, idx_tup, idx_lst, idx_str, idx_dic, slc_tup, slc_lst, slc_inp, prim_len_tup, prim_len_lst, prim_len_str, prim_int_int, prim_int_bl, prim_tuple_lst, prim_tuple_tup, prim_list_lst, prim_list_tup, prim_all, prim_any, prim_sum, prim_max2, prim_sorted, prim_lr, prim_abs, atI_0, atI_1, atI_2, cut_from1, items_tup, items_lst, items_rng1, items_enum_tup, items_zip_tup, mk_f, mk_t, LIM, cal_fn, cal_W, cal_meth, cal_init, guard_nil, guard_int, guard_tup, guard_lst, m])), exs_nx (σ' := [some (.ref r), some (Fm.nn true fs).enc, some (.int c), some (.str "and"), none, none]) (S' := S) (by (simp (decide := true) [exs, ex, ev, evs, evo, evc, bindT, bindL, getV, seqOf, de_str, de_int, de_bl, de_non, de_tup, de_lst, de_dic, de_inp, eqD_str, eqD_int, eqD_bl, bin_eq, bin_ne, bin_inn_tup, bin_inn_lst, bin_notin_tup, bin_notin_lst, bin_inn_str, bin_notin_str, bin_add_int, bin_sub_int, bin_add_tup, bin_add_lst, bin_lt_int, bin_gt_int, bin_le_int, bin_ge_int, bin_band, bin_bor, bin_shl, bin_shr, bin_mod, bin_fdiv, bin_mul_int, bin_mul_lst, bin_mul_tup, un_not, un_inv, idx_tup, idx_lst, idx_str, idx_dic, slc_tup, slc_lst, slc_inp, prim_len_tup, prim_len_lst, prim_len_str, prim_int_int, prim_int_bl, prim_tuple_lst, prim_tuple_tup, prim_list_lst, prim_list_tup, prim_all, prim_any, prim_sum, prim_max2, prim_sorted, prim_lr, prim_abs, atI_0, atI_1, atI_2, cut_from1, items_tup, items_lst, items_rng1, items_enum_tup, items_zip_tup, mk_f, mk_t, LIM, cal_fn, cal_W, cal_meth, cal_init, guard_nil, guard_int, guard_tup, guard_lst])), exs_nx (σ' := [some (.ref r), some (Fm.nn true fs).enc, some (.int c), some (.str "and"), some (.lst ((Fm.nn true fs).inners.map fun g => .bl (g.val (asg cs c)))), none]) (S' := S) (ex_asg c0 rfl), exs_rt (ex_ret c1)]
      | false =>
        have c1 : ev (cal P (run P (n + 1))) (.ite (.b2 .eq (.var 3) (.cst (.str "not"))) (.u1 .not (.idx (.var 4) (.cst (.int 0)))) (.ite (.b2 .eq (.var 3) (.cst (.str "and"))) (.prim .all [(.var 4)]) (.prim .any [(.var 4)]))) [some (.ref r), some (Fm.nn false fs).enc, some (.int c), some (.str "or"), some (.lst ((Fm.nn false fs).inners.map fun g => .bl (g.val (asg cs c)))), none] S = some (.bl ((Fm.nn false fs).val (asg cs c)), S) := by (simp (decide := true) [exs, ex, ev, evs, evo, evc, bindT, bindL, getV, seqOf, de_str, de_int, de_bl, de_non, de_tup, de_lst, de_dic, de_inp, eqD_str, eqD_int, eqD_bl, bin_eq, bin_ne, bin_inn_tup, bin_inn_lst, bin_notin_tup, bin_notin_lst, bin_inn_str, bin_notin_str, bin_add_int, bin_sub_int, bin_add_tup, bin_add_lst, bin_lt_int, bin_gt_int, bin_le_int, bin_ge_int, bin_band, bin_bor, bin_shl, bin_shr, bin_mod, bin_fdiv, bin_mul_int, bin_mul_lst, bin_mul_tup, un_not, un_inv, idx_tup, idx_lst, idx_str, idx_dic, slc_tup, slc_lst, slc_inp, prim_len_tup, prim_len_lst, prim_len_str, prim_int_int, prim_int_bl, prim_tuple_lst, prim_tuple_tup, prim_list_lst, prim_list_tup, prim_all, prim_any, prim_sum, prim_max2, prim_sorted, prim_lr, prim_abs, atI_0, atI_1, atI_2, cut_from1, items_tup, items_lst, items_rng1, items_enum_tup, items_zip_tup, mk_f, mk_t, LIM, cal_fn, cal_W, cal_meth, cal_init, guard_nil, guard_int, guard_tup, guard_lst, boolsOf_map, Fm.inners, Fm.val, Fm.vals_map])
        have c0 := comp "or" none
        refine ⟨[some (.ref r), some (Fm.nn false fs).enc, some (.int c), some (.str "or"), some (.lst ((Fm.nn false fs).inners.map fun g => .bl (g.val (asg cs c)))), none], ?_⟩
        show exs (cal P (run P (n + 1))) [_, _, _, _, _] [some (.ref r), some (Fm.nn false fs).enc, some (.int c), none, none, none] S = _
        rw [exs_nx (σ' := [some (.ref r), some (Fm.nn false fs).enc, some (.int c), some (.str "or"), none, none]) (S' := S) (by simp only [Fm.enc]; (simp (decide := true) [exs, ex, ev, evs, evo, evc, bindT, bindL, getV, seqOf, de_str, de_int, de_bl, de_non, de_tup, de_lst, de_dic, de_inp, eqD_str, eqD_int, eqD_bl, bin_eq, bin_ne, bin_inn_tup, bin_inn_lst, bin_notin_tup, bin_notin_lst, bin_inn_str, bin_notin_str, bin_add_int, bin_sub_int, bin_add_tup, bin_add_lst, bin_lt_int, bin_gt_int, bin_le_int, bin_ge_int, bin_band, bin_bor, bin_shl, bin_shr, bin_mod, bin_fdiv, bin_mul_int, bin_mul_lst, bin_mul_tup, un_not, un_inv, idx_tup, idx_lst, idx_str, idx_dic, slc_tup, slc_lst, slc_inp, prim_len_tup, prim_len_lst, prim_len_str, prim_int_int, prim_int_bl, prim_tuple_lst, prim_tuple_tup, prim_list_lst, prim_list_tup, prim_all, prim_any, prim_sum, prim_max2, prim_sorted, prim_lr, prim_abs, atI_0, atI_1, atI_2, cut_from1, items_tup, items_lst, items_rng1, items_enum_tup, items_zip_tup, mk_f, mk_t, LIM, cal_fn, cal_W, cal_meth, cal_init, guard_nil, guard_int, guard_tup, guard_lst])), exs_nx (σ' := [some (.ref r), some (Fm.nn false fs).enc, some (.int c), some (.str "or"), none, none]) (S' := S) (by (simp (decide := true) [exs, ex, ev, evs, evo, evc, bindT, bindL, getV, seqOf, de_str, de_int, de_bl, de_non, de_tup, de_lst, de_dic, de_inp, eqD_str, eqD_int, eqD_bl, bin_eq, bin_ne, bin_inn_tup, bin_inn_lst, bin_notin_tup, bin_notin_lst, bin_inn_str, bin_notin_str, bin_add_int, bin_sub_int, bin_add_tup, bin_add_lst, bin_lt_int, bin_gt_int, bin_le_int, bin_ge_int, bin_band, bin_bor, bin_shl, bin_shr, bin_mod, bin_fdiv, bin_mul_int, bin_mul_lst, bin_mul_tup, un_not, un_inv, idx_tup, idx_lst, idx_str, idx_dic, slc_tup, slc_lst, slc_inp, prim_len_tup, prim_len_lst, prim_len_str, prim_int_int, prim_int_bl, prim_tuple_lst, prim_tuple_tup, prim_list_lst, prim_list_tup, prim_all, prim_any, prim_sum, prim_max2, prim_sorted, prim_lr, prim_abs, atI_0, atI_1, atI_2, cut_from1, items_tup, items_lst, items_rng1, items_enum_tup, items_zip_tup, mk_f, mk_t, LIM, cal_fn, cal_W, cal_meth, cal_init, guard_nil, guard_int, guard_tup, guard_lst, m])), exs_nx (σ' := [some (.ref r), some (Fm.nn false fs).enc, some (.int c), some (.str "or"), none, none]) (S' := S) (by (simp (decide := true) [exs, ex, ev, evs, evo, evc, bindT, bindL, getV, seqOf, de_str, de_int, de_bl, de_non, de_tup, de_lst, de_dic, de_inp, eqD_str, eqD_int, eqD_bl, bin_eq, bin_ne, bin_inn_tup, bin_inn_lst, bin_notin_tup, bin_notin_lst, bin_inn_str, bin_notin_str, bin_add_int, bin_sub_int, bin_add_tup, bin_add_lst, bin_lt_int, bin_gt_int, bin_le_int, bin_ge_int, bin_band, bin_bor, bin_shl, bin_shr, bin_mod, bin_fdiv, bin_mul_int, bin_mul_lst, bin_mul_tup, un_not, un_inv, idx_tup, idx_lst, idx_str, idx_dic, slc_tup, slc_lst, slc_inp, prim_len_tup, prim_len_lst, prim_len_str, prim_int_int, prim_int_bl, prim_tuple_lst, prim_tuple_tup, prim_list_lst, prim_list_tup, prim_all, prim_any, prim_sum, prim_max2, prim_sorted, prim_lr, prim_abs, atI_0, atI_1, atI_2, cut_from1, items_tup, items_lst, items_rng1, items_enum_tup, items_zip_tup, mk_f, mk_t, LIM, cal_fn, cal_W, cal_meth, cal_init, guard_nil, guard_int, guard_tup, guard_lst])), exs_nx (σ' := [some (.ref r), some (Fm.nn false fs).enc, some (.int c), some (.str "or"), some (.lst ((Fm.nn false fs).inners.map fun g => .bl (g.val (asg cs c)))), none]) (S' := S) (ex_asg c0 rfl), exs_rt (ex_ret c1)]
  obtain ⟨σ, key⟩ := key
  rw [key, Option.bind_some]
  exact leaveF_py0 rfl
end Fw
end
section
set_option Elab.async false
set_option linter.all false
set_option autoImplicit false
set_option maxRecDepth 10000
set_option maxHeartbeats 2000000
/-! Pl7: labels: allowed, after. -/
namespace Fw
open PySem
inductive Lb where
  | inn | opn | out
  deriving DecidableEq
def Lb.str : Lb → Str
  | .inn => "in"
  | .opn => "open"
  | .out => "out"
theorem Lb.str_inj {a b : Lb} : a.str = b.str ↔ a = b := by
  cases a <;> cases b <;> simp (decide := true) [Lb.str]
def encL (L : List Lb) : D := .tup (L.map fun l => .str l.str)
theorem encL_strs (L : List Lb) : encL L = .tup ((L.map Lb.str).map .str) := by unfold encL; rw [List.map_map]; rfl
theorem encL_inj {L M : List Lb} : encL L = encL M ↔ L = M := by
  rw [encL_strs, encL_strs, strs_inj]
  constructor
  · intro h
    have h2 := congrArg (List.map fun s : Str => if s = "in" then Lb.inn else if s = "open" then Lb.opn else Lb.out) h
    rw [List.map_map, List.map_map] at h2
    have e : ∀ l : Lb, ((fun s : Str => if s = "in" then Lb.inn else if s = "open" then Lb.opn else Lb.out) ∘ Lb.str) l = l := fun l => by cases l <;> simp (decide := true) [Lb.str]
    simpa [funext e] using h2
  · intro h; rw [h]
theorem eqD_L (L M : List Lb) : eqD (encL L) (encL M) = some (decide (L = M)) := by
  rw [encL_strs, encL_strs, eqD_strs]
  congr 1
  rw [decide_eq_decide, ← strs_inj, ← encL_strs, ← encL_strs]
  exact encL_inj
theorem encL_py (L : List Lb) : (encL L).isPy = true := by rw [encL_strs]; exact (Sx.strs _).py
theorem de_encL (S : Store) (L : List Lb) : deref S (encL L) = encL L := rfl
/-! ### enumerate -/
theorem enum_map {α : Type} (g : α → D) : ∀ (xs : List α), (List.range (xs.map g).length).zipWith (fun i x => D.tup [.int (i : Nat), x]) (xs.map g) = xs.zipIdx.map fun p => D.tup [.int (p.2 : Nat), g p.1] := by
  intro xs
  apply List.ext_getElem
  · simp
  · intro i h1 h2
    simp
/-- the bits of a label -/
def bitsOf (l : Lb) (L : List Lb) : Nat := ((L.zipIdx.filter fun p => decide (p.1 = l)).map fun p => 2 ^ p.2).sum
def b11 : FD := ⟨2, 5, [
  .asg (.name 2) (.prim .sum [(.comp false (.b2 .shl (.cst (.int 1)) (.var 4)) (.tup [4, 5]) .enum [(.var 1)] [(.b2 .eq (.var 5) (.cst (.str "in")))])]),
  .asg (.name 3) (.prim .sum [(.comp false (.b2 .shl (.cst (.int 1)) (.var 4)) (.tup [4, 5]) .enum [(.var 1)] [(.b2 .eq (.var 5) (.cst (.str "open")))])]),
  .ret (.comp false (.var 6) (.name 6) .seq [(.fld (.var 0) "choices")] [(.b2 .eq (.b2 .band (.var 6) (.u1 .inv (.var 3))) (.var 2))])]⟩
def allowedN (n : Nat) (L : List Lb) : List Nat := (List.range (2 ^ n)).filter fun c => decide (PySem.Builtin.bitAnd (c : Int) (PySem.Builtin.bitNot ((bitsOf .opn L : Nat) : Int)) = ((bitsOf .inn L : Nat) : Int))
theorem sum_cast (l : List Nat) : (l.map fun x : Nat => (x : Int)).sum = ((l.sum : Nat) : Int) := by
  induction l with
  | nil => rfl
  | cons a l ih => rw [List.map_cons, List.sum_cons, ih, List.sum_cons, Int.natCast_add]
def choicesD (n : Nat) : D := .lst (rng 0 ((2 ^ n : Nat) : Int))
theorem rng0 (k : Nat) : rng 0 (k : Int) = (List.range k).map fun i => D.int ((i : Nat) : Int) := by
  unfold rng
  simp
theorem bits_ev {C : Cal} {S : Store} {L : List Lb} (hL : L.length ≤ 10) (l : Lb) (w : Str) (hw : w = l.str) (a b : Option D) (c d e f : Option D) : ev C (.prim .sum [(.comp false (.b2 .shl (.cst (.int 1)) (.var 4)) (.tup [4, 5]) .enum [(.var 1)] [(.b2 .eq (.var 5) (.cst (.str w)))])]) [a, some (encL L), c, d, e, f, b] S = some (.int ((bitsOf l L : Nat) : Int), S) := by
  subst hw
  have hc : ev C (.comp false (.b2 .shl (.cst (.int 1)) (.var 4)) (.tup [4, 5]) .enum [(.var 1)] [(.b2 .eq (.var 5) (.cst (.str l.str)))]) [a, some (encL L), c, d, e, f, b] S = some (.lst ((L.zipIdx.filter fun p => decide (p.1 = l)).map fun p => .int ((2 ^ p.2 : Nat) : Int)), S) := by
    rw [ev_comp (ds := [encL L]) (S1 := S) (xs := L.zipIdx.map fun p => D.tup [.int (p.2 : Nat), .str p.1.str]) (by simp [ev, evs, getV]) (by unfold encL; rw [items_enum_tup, enum_map]),
      compL_filterc (fun p : Lb × Nat => D.tup [.int (p.2 : Nat), .str p.1.str]) (fun p => decide (p.1 = l)) (fun p => .int ((2 ^ p.2 : Nat) : Int)) rfl]
    · have h1 : (L.zipIdx.filter fun p => decide (p.1 = l)).length ≤ 10 := by
        have := List.length_filter_le (fun p : Lb × Nat => decide (p.1 = l)) L.zipIdx
        rw [List.length_zipIdx] at this
        omega
      simp only [Option.bind_some, mk_f, List.length_map]
      rw [if_pos (by unfold LIM; omega)]
    · rintro ⟨q, i⟩ hq
      have hi : i < L.length := by
        have := List.mem_zipIdx hq
        omega
      have h2 : (i : Int) ≤ 1000000 := by omega
      by_cases e1 : q = l
      · subst e1
        (simp (decide := true) [exs, ex, ev, evs, evo, evc, bindT, bindL, getV, seqOf, de_str, de_int, de_bl, de_non, de_tup, de_lst, de_dic, de_inp, eqD_str, eqD_int, eqD_bl, bin_eq, bin_ne, bin_inn_tup, bin_inn_lst, bin_notin_tup, bin_notin_lst, bin_inn_str, bin_notin_str, bin_add_int, bin_sub_int, bin_add_tup, bin_add_lst, bin_lt_int, bin_gt_int, bin_le_int, bin_ge_int, bin_band, bin_bor, bin_shl, bin_shr, bin_mod, bin_fdiv, bin_mul_int, bin_mul_lst, bin_mul_tup, un_not, un_inv, idx_tup, idx_lst, idx_str, idx_dic, slc_tup, slc_lst, slc_inp, prim_len_tup, prim_len_lst, prim_len_str, prim_int_int, prim_int_bl, prim_tuple_lst, prim_tuple_tup, prim_list_lst, prim_list_tup, prim_all, prim_any, prim_sum, prim_max2, prim_sorted, prim_lr, prim_abs, atI_0, atI_1, atI_2, cut_from1, items_tup, items_lst, items_rng1, items_enum_tup, items_zip_tup, mk_f, mk_t, LIM, cal_fn, cal_W, cal_meth, cal_init, guard_nil, guard_int, guard_tup, guard_lst, h2])
      · have e2 : ¬ q.str = l.str := fun h => e1 (Lb.str_inj.mp h)
        (simp (decide := true) [exs, ex, ev, evs, evo, evc, bindT, bindL, getV, seqOf, de_str, de_int, de_bl, de_non, de_tup, de_lst, de_dic, de_inp, eqD_str, eqD_int, eqD_bl, bin_eq, bin_ne, bin_inn_tup, bin_inn_lst, bin_notin_tup, bin_notin_lst, bin_inn_str, bin_notin_str, bin_add_int, bin_sub_int, bin_add_tup, bin_add_lst, bin_lt_int, bin_gt_int, bin_le_int, bin_ge_int, bin_band, bin_bor, bin_shl, bin_shr, bin_mod, bin_fdiv, bin_mul_int, bin_mul_lst, bin_mul_tup, un_not, un_inv, idx_tup, idx_lst, idx_str, idx_dic, slc_tup, slc_lst, slc_inp, prim_len_tup, prim_len_lst, prim_len_str, prim_int_int, prim_int_bl, prim_tuple_lst, prim_tuple_tup, prim_list_lst, prim_list_tup, prim_all, prim_any, prim_sum, prim_max2, prim_sorted, prim_lr, prim_abs, atI_0, atI_1, atI_2, cut_from1, items_tup, items_lst, items_rng1, items_enum_tup, items_zip_tup, mk_f, mk_t, LIM, cal_fn, cal_W, cal_meth, cal_init, guard_nil, guard_int, guard_tup, guard_lst, e1, e2])
  refine ev_prim (ds := [_]) (S1 := S) (evs_1 hc) ?_
  show prim .sum [.lst _] = _
  rw [prim_sum, intsOf_map (fun p : Lb × Nat => ((2 ^ p.2 : Nat) : Int))]
  simp only [Option.map_some, Option.some.injEq, D.int.injEq]
  unfold bitsOf
  rw [← sum_cast, List.map_map]
  rfl
theorem allowed_spec {P : Prog} {i cc : Nat} (h11 : P.funs[i]? = some b11) (n k : Nat) (L : List Lb) (S : Store) (r : Nat) (flds : List (Str × D)) (hL : L.length ≤ 10) (hk : k ≤ 10) (hS : S[r]? = some (.ins cc flds)) (hc : lookF "choices" flds = some (choicesD k)) :
    run P (n + 1) i [.ref r, encL L] S = some (.lst ((allowedN k L).map fun c => .int ((c : Nat) : Int)), S) := by
  rw [run_eq h11 rfl]
  have e1 := bits_ev (C := cal P (run P n)) (S := S) hL .inn "in" rfl (some (.ref r)) none none none none none
  have e2 := bits_ev (C := cal P (run P n)) (S := S) hL .opn "open" rfl (some (.ref r)) none (some (.int ((bitsOf .inn L : Nat) : Int))) none none none
  have p10 : 2 ^ k ≤ 1024 := Nat.le_trans (Nat.pow_le_pow_right (by omega) hk) (by decide)
  have e3 : ev (cal P (run P n)) (.comp false (.var 6) (.name 6) .seq [(.fld (.var 0) "choices")] [(.b2 .eq (.b2 .band (.var 6) (.u1 .inv (.var 3))) (.var 2))]) [some (.ref r), some (encL L), some (.int ((bitsOf .inn L : Nat) : Int)), some (.int ((bitsOf .opn L : Nat) : Int)), none, none, none] S = some (.lst ((allowedN k L).map fun c => .int ((c : Nat) : Int)), S) := by
    rw [ev_comp (ds := [choicesD k]) (S1 := S) (xs := (List.range (2 ^ k)).map fun i => D.int ((i : Nat) : Int)) (by (simp (decide := true) [exs, ex, ev, evs, evo, evc, bindT, bindL, getV, seqOf, de_str, de_int, de_bl, de_non, de_tup, de_lst, de_dic, de_inp, eqD_str, eqD_int, eqD_bl, bin_eq, bin_ne, bin_inn_tup, bin_inn_lst, bin_notin_tup, bin_notin_lst, bin_inn_str, bin_notin_str, bin_add_int, bin_sub_int, bin_add_tup, bin_add_lst, bin_lt_int, bin_gt_int, bin_le_int, bin_ge_int, bin_band, bin_bor, bin_shl, bin_shr, bin_mod, bin_fdiv, bin_mul_int, bin_mul_lst, bin_mul_tup, un_not, un_inv, idx_tup, idx_lst, idx_str, idx_dic, slc_tup, slc_lst, slc_inp, prim_len_tup, prim_len_lst, prim_len_str, prim_int_int, prim_int_bl, prim_tuple_lst, prim_tuple_tup, prim_list_lst, prim_list_tup, prim_all, prim_any, prim_sum, prim_max2, prim_sorted, prim_lr, prim_abs, atI_0, atI_1, atI_2, cut_from1, items_tup, items_lst, items_rng1, items_enum_tup, items_zip_tup, mk_f, mk_t, LIM, cal_fn, cal_W, cal_meth, cal_init, guard_nil, guard_int, guard_tup, guard_lst, hS, hc])) (by unfold choicesD; rw [items_lst, rng0]),
      compL_filterc (fun c : Nat => D.int ((c : Nat) : Int)) (fun c => decide (PySem.Builtin.bitAnd (c : Int) (PySem.Builtin.bitNot ((bitsOf .opn L : Nat) : Int)) = ((bitsOf .inn L : Nat) : Int))) (fun c => .int ((c : Nat) : Int)) rfl]
    · have h1 : (allowedN k L).length ≤ 1024 := by
        unfold allowedN
        refine Nat.le_trans (List.length_filter_le _ _) ?_
        rw [List.length_range]
        exact p10
      show (some _ : Option (List D × Store)).bind _ = _
      simp only [Option.bind_some, mk_f, List.length_map]
      rw [if_pos (show (List.filter _ _).length ≤ LIM from Nat.le_trans h1 (by unfold LIM; omega))]
      rfl
    · intro c hc'
      by_cases q : PySem.Builtin.bitAnd (c : Int) (PySem.Builtin.bitNot ((bitsOf .opn L : Nat) : Int)) = ((bitsOf .inn L : Nat) : Int)
      · (simp (decide := true) [exs, ex, ev, evs, evo, evc, bindT, bindL, getV, seqOf, de_str, de_int, de_bl, de_non, de_tup, de_lst, de_dic, de_inp, eqD_str, eqD_int, eqD_bl, bin_eq, bin_ne, bin_inn_tup, bin_inn_lst, bin_notin_tup, bin_notin_lst, bin_inn_str, bin_notin_str, bin_add_int, bin_sub_int, bin_add_tup, bin_add_lst, bin_lt_int, bin_gt_int, bin_le_int, bin_ge_int, bin_band, bin_bor, bin_shl, bin_shr, bin_mod, bin_fdiv, bin_mul_int, bin_mul_lst, bin_mul_tup, un_not, un_inv, idx_tup, idx_lst, idx_str, idx_dic, slc_tup, slc_lst, slc_inp, prim_len_tup, prim_len_lst, prim_len_str, prim_int_int, prim_int_bl, prim_tuple_lst, prim_tuple_tup, prim_list_lst, prim_list_tup, prim_all, prim_any, prim_sum, prim_max2, prim_sorted, prim_lr, prim_abs, atI_0, atI_1, atI_2, cut_from1, items_tup, items_lst, items_rng1, items_enum_tup, items_zip_tup, mk_f, mk_t, LIM, cal_fn, cal_W, cal_meth, cal_init, guard_nil, guard_int, guard_tup, guard_lst, q])
      · (simp (decide := true) [exs, ex, ev, evs, evo, evc, bindT, bindL, getV, seqOf, de_str, de_int, de_bl, de_non, de_tup, de_lst, de_dic, de_inp, eqD_str, eqD_int, eqD_bl, bin_eq, bin_ne, bin_inn_tup, bin_inn_lst, bin_notin_tup, bin_notin_lst, bin_inn_str, bin_notin_str, bin_add_int, bin_sub_int, bin_add_tup, bin_add_lst, bin_lt_int, bin_gt_int, bin_le_int, bin_ge_int, bin_band, bin_bor, bin_shl, bin_shr, bin_mod, bin_fdiv, bin_mul_int, bin_mul_lst, bin_mul_tup, un_not, un_inv, idx_tup, idx_lst, idx_str, idx_dic, slc_tup, slc_lst, slc_inp, prim_len_tup, prim_len_lst, prim_len_str, prim_int_int, prim_int_bl, prim_tuple_lst, prim_tuple_tup, prim_list_lst, prim_list_tup, prim_all, prim_any, prim_sum, prim_max2, prim_sorted, prim_lr, prim_abs, atI_0, atI_1, atI_2, cut_from1, items_tup, items_lst, items_rng1, items_enum_tup, items_zip_tup, mk_f, mk_t, LIM, cal_fn, cal_W, cal_meth, cal_init, guard_nil, guard_int, guard_tup, guard_lst, q])
  have key : ∃ σ, (exs (cal P (run P n)) b11.body ([.ref r, encL L].map some ++ List.replicate b11.nloc none) S) = some (.rt (.lst ((allowedN k L).map fun c => .int ((c : Nat) : Int))), σ, S) := by
    refine ⟨[some (.ref r), some (encL L), some (.int ((bitsOf .inn L : Nat) : Int)), some (.int ((bitsOf .opn L : Nat) : Int)), none, none, none], ?_⟩
    show exs (cal P (run P n)) [_, _, _] [some (.ref r), some (encL L), none, none, none, none, none] S = _
    rw [exs_nx (σ' := [some (.ref r), some (encL L), some (.int ((bitsOf .inn L : Nat) : Int)), none, none, none, none]) (S' := S) (ex_asg e1 rfl),
      exs_nx (σ' := [some (.ref r), some (encL L), some (.int ((bitsOf .inn L : Nat) : Int)), some (.int ((bitsOf .opn L : Nat) : Int)), none, none, none]) (S' := S) (ex_asg e2 rfl), exs_rt (ex_ret e3)]
  obtain ⟨σ, key⟩ := key
  rw [key, Option.bind_some]
  refine leaveF_py0 ?_
  rw [D.isPy]
  exact isPys_of fun x hx => by obtain ⟨c, _, rfl⟩ := List.mem_map.mp hx; rfl
/-! ### after -/
def gamL (b : List Bool) : Lb := if b.all id then .inn else if b.any id then .opn else .out
/-- the next label of a formula -/
def gam (cs : List Str) (n : Nat) (L : List Lb) (f : Fm) : Lb := gamL ((allowedN n L).map fun c => f.val (asg cs c))
def gams (cs : List Str) (fs : List Fm) (L : List Lb) : List Lb := fs.map (gam cs cs.length L)
def truthsD (cs : List Str) (fs : List Fm) : D := .lst (fs.map fun f => .lst ((List.range (2 ^ cs.length)).map fun c => .bl (f.val (asg cs c))))
def b12 : FD := ⟨2, 5, [
  .asg (.name 2) (.meth (.var 0) "allowed" [(.var 1)]),
  .asg (.name 3) (.lst true []),
  .for_ (.name 4) .seq [(.fld (.var 0) "truths")] [.asg (.name 5) (.comp false (.idx (.var 4) (.var 6)) (.name 6) .seq [(.var 2)] []), .expr (.pm .append (.var 3) [(.ite (.prim .all [(.var 5)]) (.cst (.str "in")) (.ite (.prim .any [(.var 5)]) (.cst (.str "open")) (.cst (.str "out"))))])],
  .ret (.prim .tuple [(.var 3)])]⟩
theorem allowed_lt {n : Nat} {L : List Lb} {c : Nat} (h : c ∈ allowedN n L) : c < 2 ^ n := by
  unfold allowedN at h
  rw [List.mem_filter, List.mem_range] at h
  exact h.1
theorem app_get (S : Store) (c : Cell) : (S ++ [c])[S.length]? = some c := by simp
theorem app_set (S : Store) (c c' : Cell) : (S ++ [c]).set S.length c' = S ++ [c'] := by
  rw [List.set_append_right _ _ (Nat.le_refl _)]
  simp
theorem after_spec {P : Prog} {i j cc : Nat} (h11 : P.funs[i]? = some b11) (h12 : P.funs[j]? = some b12) (hm : (P.meths[cc]?).bind (lookM "allowed") = some i) (n : Nat) (cs : List Str) (fs : List Fm) (L : List Lb) (S : Store) (r : Nat) (flds : List (Str × D))
    (hL : L.length ≤ 10) (hk : cs.length ≤ 10) (hfs : fs.length ≤ 10) (hS : S[r]? = some (.ins cc flds)) (hc : lookF "choices" flds = some (choicesD cs.length)) (ht : lookF "truths" flds = some (truthsD cs fs)) (hn : lookF "allowed" flds = none) :
    run P (n + 2) j [.ref r, encL L] S = some (encL (gams cs fs L), S) := by
  rw [run_eq h12 rfl]
  have e0 := allowed_spec h11 n cs.length L S r flds hL hk hS hc
  have p10 : 2 ^ cs.length ≤ 1024 := Nat.le_trans (Nat.pow_le_pow_right (by omega) hk) (by decide)
  have hal : (allowedN cs.length L).length ≤ 1024 := by
    unfold allowedN
    refine Nat.le_trans (List.length_filter_le _ _) ?_
    rw [List.length_range]
    exact p10
  let rows : D := .lst ((allowedN cs.length L).map fun c => .int ((c : Nat) : Int))
  let tr : Fm → D := fun f => .lst ((List.range (2 ^ cs.length)).map fun c => .bl (f.val (asg cs c)))
  have hr : r < S.length := (List.getElem?_eq_some_iff.mp hS).1
  have loop := forL_inv (g := fun S' => guard (S ++ [.lst []]) S' [truthsD cs fs]) (t := .name 4) (body := fun σ S => exs (cal P (run P (n + 1))) [.asg (.name 5) (.comp false (.idx (.var 4) (.var 6)) (.name 6) .seq [(.var 2)] []), .expr (.pm .append (.var 3) [(.ite (.prim .all [(.var 5)]) (.cst (.str "in")) (.ite (.prim .any [(.var 5)]) (.cst (.str "open")) (.cst (.str "out"))))])] σ S) tr
    (fun q σ S' => ∃ (p : List Fm) (x y : Option D), fs = p ++ q ∧ S' = S ++ [.lst (p.map fun f => .str (gam cs cs.length L f).str)] ∧ σ = [some (.ref r), some (encL L), some rows, some (.ref S.length), x, y, none])
    (fun res => ∃ x y, res = some (.nx, [some (.ref r), some (encL L), some rows, some (.ref S.length), x, y, none], S ++ [.lst (fs.map fun f => .str (gam cs cs.length L f).str)]))
    (xs := fs) (σ := [some (.ref r), some (encL L), some rows, some (.ref S.length), none, none, none]) (S := S ++ [.lst []])
    ⟨[], none, none, rfl, rfl, rfl⟩
    (fun f q σ S' ⟨p, x, y, hp, hS', hσ⟩ => by
      subst hS' hσ
      have hpl : p.length ≤ 10 := by have := congrArg List.length hp; rw [List.length_append] at this; omega
      have ec : ev (cal P (run P (n + 1))) (.comp false (.idx (.var 4) (.var 6)) (.name 6) .seq [(.var 2)] []) [some (.ref r), some (encL L), some rows, some (.ref S.length), some (tr f), y, none] (S ++ [.lst (p.map fun f => .str (gam cs cs.length L f).str)]) = some (.lst ((allowedN cs.length L).map fun c => .bl (f.val (asg cs c))), S ++ [.lst (p.map fun f => .str (gam cs cs.length L f).str)]) := by
        rw [ev_comp (ds := [rows]) (S1 := S ++ [.lst (p.map fun f => .str (gam cs cs.length L f).str)]) (xs := (allowedN cs.length L).map fun c => .int ((c : Nat) : Int)) (by simp [ev, evs, getV]) rfl, compL_mapc (fun c : Nat => D.int ((c : Nat) : Int)) (fun c => D.bl (f.val (asg cs c))) rfl]
        · simp only [Option.bind_some, mk_f, List.length_map]
          rw [if_pos (Nat.le_trans hal (by unfold LIM; omega))]
        · intro c hc'
          have hlt := allowed_lt hc'
          have e : L2.atI ((List.range (2 ^ cs.length)).map fun c => D.bl (f.val (asg cs c))) (c : Int) = some (.bl (f.val (asg cs c))) := by
            rw [atI_nat, List.getElem?_map, List.getElem?_range hlt]; rfl
          simp only [evc, ev, evs, getV, bindT, tr, List.getElem?_cons_zero, List.getElem?_cons_succ, List.set_cons_succ, List.set_cons_zero, Option.join_some, Option.map_some, Option.bind_some, de_lst, idx_lst, e, if_true]
      have ed : ∀ y', ev (cal P (run P (n + 1))) (.ite (.prim .all [(.var 5)]) (.cst (.str "in")) (.ite (.prim .any [(.var 5)]) (.cst (.str "open")) (.cst (.str "out")))) [some (.ref r), some (encL L), some rows, some (.ref S.length), some (tr f), some (.lst ((allowedN cs.length L).map fun c => .bl (f.val (asg cs c)))), none] y' = some (.str (gam cs cs.length L f).str, y') := fun y' => by
        simp only [ev, evs, getV, List.getElem?_cons_zero, List.getElem?_cons_succ, Option.join_some, Option.map_some, Option.bind_some, List.map_cons, List.map_nil, de_lst, prim_all, prim_any, boolsOf_map]
        unfold gam gamL
        cases ((allowedN cs.length L).map fun c => f.val (asg cs c)).all id <;> cases ((allowedN cs.length L).map fun c => f.val (asg cs c)).any id <;> rfl
      refine ⟨_, rfl, .inl ⟨[some (.ref r), some (encL L), some rows, some (.ref S.length), some (tr f), some (.lst ((allowedN cs.length L).map fun c => .bl (f.val (asg cs c)))), none], S ++ [.lst ((p ++ [f]).map fun f => .str (gam cs cs.length L f).str)], .inl ?_, rfl, p ++ [f], _, _, by rw [hp, List.append_assoc]; rfl, rfl, rfl⟩⟩
      show exs (cal P (run P (n + 1))) [_, _] [some (.ref r), some (encL L), some rows, some (.ref S.length), some (tr f), y, none] _ = _
      rw [exs_nx (σ' := [some (.ref r), some (encL L), some rows, some (.ref S.length), some (tr f), some (.lst ((allowedN cs.length L).map fun c => .bl (f.val (asg cs c)))), none]) (ex_asg ec rfl), exs_nx (σ' := [some (.ref r), some (encL L), some rows, some (.ref S.length), some (tr f), some (.lst ((allowedN cs.length L).map fun c => .bl (f.val (asg cs c)))), none]) (S' := S ++ [.lst ((p ++ [f]).map fun f => .str (gam cs cs.length L f).str)]) (ex_expr (d := .non) ?_), exs_nil]
      rw [ev]
      show ((ev _ (.var 3) [some (.ref r), some (encL L), some rows, some (.ref S.length), some (tr f), some (.lst ((allowedN cs.length L).map fun c => .bl (f.val (asg cs c)))), none] _).bind _) = _
      rw [ev]
      simp only [getV, List.getElem?_cons_zero, List.getElem?_cons_succ, Option.join_some, Option.map_some, Option.bind_some, deref, app_get, pmOk, if_true]
      rw [evs_1 (ed _)]
      simp only [Option.bind_some, pmV, app_get, app_set, List.length_map, List.map_append, List.map_cons, List.map_nil]
      rw [if_pos (show p.length < LIM by unfold LIM; omega)])
    (fun σ S' ⟨p, x, y, hp, hS', hσ⟩ => by
      subst hS' hσ
      rw [List.append_nil] at hp
      subst hp
      exact ⟨x, y, rfl⟩)
  obtain ⟨x, y, e1⟩ := loop
  have key : (exs (cal P (run P (n + 1))) b12.body ([.ref r, encL L].map some ++ List.replicate b12.nloc none) S) = some (.rt (encL (gams cs fs L)), [some (.ref r), some (encL L), some rows, some (.ref S.length), x, y, none], S ++ [.lst (fs.map fun f => .str (gam cs cs.length L f).str)]) := by
    show exs (cal P (run P (n + 1))) [_, _, _, _] [some (.ref r), some (encL L), none, none, none, none, none] S = _
    have hS2 : (S ++ [Cell.lst []])[r]? = some (.ins cc flds) := by rw [List.getElem?_append_left hr]; exact hS
    rw [exs_nx (σ' := [some (.ref r), some (encL L), some rows, none, none, none, none]) (S' := S) (by (simp (decide := true) [exs, ex, ev, evs, evo, evc, bindT, bindL, getV, seqOf, de_str, de_int, de_bl, de_non, de_tup, de_lst, de_dic, de_inp, eqD_str, eqD_int, eqD_bl, bin_eq, bin_ne, bin_inn_tup, bin_inn_lst, bin_notin_tup, bin_notin_lst, bin_inn_str, bin_notin_str, bin_add_int, bin_sub_int, bin_add_tup, bin_add_lst, bin_lt_int, bin_gt_int, bin_le_int, bin_ge_int, bin_band, bin_bor, bin_shl, bin_shr, bin_mod, bin_fdiv, bin_mul_int, bin_mul_lst, bin_mul_tup, un_not, un_inv, idx_tup, idx_lst, idx_str, idx_dic, slc_tup, slc_lst, slc_inp, prim_len_tup, prim_len_lst, prim_len_str, prim_int_int, prim_int_bl, prim_tuple_lst, prim_tuple_tup, prim_list_lst, prim_list_tup, prim_all, prim_any, prim_sum, prim_max2, prim_sorted, prim_lr, prim_abs, atI_0, atI_1, atI_2, cut_from1, items_tup, items_lst, items_rng1, items_enum_tup, items_zip_tup, mk_f, mk_t, LIM, cal_fn, cal_W, cal_meth, cal_init, guard_nil, guard_int, guard_tup, guard_lst, hS, hn, hm, e0, rows])),
      exs_nx (σ' := [some (.ref r), some (encL L), some rows, some (.ref S.length), none, none, none]) (S' := S ++ [.lst []]) (by (simp (decide := true) [exs, ex, ev, evs, evo, evc, bindT, bindL, getV, seqOf, de_str, de_int, de_bl, de_non, de_tup, de_lst, de_dic, de_inp, eqD_str, eqD_int, eqD_bl, bin_eq, bin_ne, bin_inn_tup, bin_inn_lst, bin_notin_tup, bin_notin_lst, bin_inn_str, bin_notin_str, bin_add_int, bin_sub_int, bin_add_tup, bin_add_lst, bin_lt_int, bin_gt_int, bin_le_int, bin_ge_int, bin_band, bin_bor, bin_shl, bin_shr, bin_mod, bin_fdiv, bin_mul_int, bin_mul_lst, bin_mul_tup, un_not, un_inv, idx_tup, idx_lst, idx_str, idx_dic, slc_tup, slc_lst, slc_inp, prim_len_tup, prim_len_lst, prim_len_str, prim_int_int, prim_int_bl, prim_tuple_lst, prim_tuple_tup, prim_list_lst, prim_list_tup, prim_all, prim_any, prim_sum, prim_max2, prim_sorted, prim_lr, prim_abs, atI_0, atI_1, atI_2, cut_from1, items_tup, items_lst, items_rng1, items_enum_tup, items_zip_tup, mk_f, mk_t, LIM, cal_fn, cal_W, cal_meth, cal_init, guard_nil, guard_int, guard_tup, guard_lst])),
      exs_nx (σ' := [some (.ref r), some (encL L), some rows, some (.ref S.length), x, y, none]) (S' := S ++ [.lst (fs.map fun f => .str (gam cs cs.length L f).str)]) (by
        rw [ex_for (ds := [truthsD cs fs]) (S1 := S ++ [.lst []]) (xs := fs.map tr) (by (simp (decide := true) [exs, ex, ev, evs, evo, evc, bindT, bindL, getV, seqOf, de_str, de_int, de_bl, de_non, de_tup, de_lst, de_dic, de_inp, eqD_str, eqD_int, eqD_bl, bin_eq, bin_ne, bin_inn_tup, bin_inn_lst, bin_notin_tup, bin_notin_lst, bin_inn_str, bin_notin_str, bin_add_int, bin_sub_int, bin_add_tup, bin_add_lst, bin_lt_int, bin_gt_int, bin_le_int, bin_ge_int, bin_band, bin_bor, bin_shl, bin_shr, bin_mod, bin_fdiv, bin_mul_int, bin_mul_lst, bin_mul_tup, un_not, un_inv, idx_tup, idx_lst, idx_str, idx_dic, slc_tup, slc_lst, slc_inp, prim_len_tup, prim_len_lst, prim_len_str, prim_int_int, prim_int_bl, prim_tuple_lst, prim_tuple_tup, prim_list_lst, prim_list_tup, prim_all, prim_any, prim_sum, prim_max2, prim_sorted, prim_lr, prim_abs, atI_0, atI_1, atI_2, cut_from1, items_tup, items_lst, items_rng1, items_enum_tup, items_zip_tup, mk_f, mk_t, LIM, cal_fn, cal_W, cal_meth, cal_init, guard_nil, guard_int, guard_tup, guard_lst, hS2, ht])) rfl]; exact e1),
      exs_rt (d := encL (gams cs fs L)) (σ' := [some (.ref r), some (encL L), some rows, some (.ref S.length), x, y, none]) (S' := S ++ [.lst (fs.map fun f => .str (gam cs cs.length L f).str)]) (ex_ret ?_)]
    simp only [ev, evs, getV, List.getElem?_cons_zero, List.getElem?_cons_succ, Option.join_some, Option.map_some, Option.bind_some, List.map_cons, List.map_nil, deref, app_get, prim_tuple_lst]
    unfold encL gams
    rw [List.map_map]
    rfl
  rw [key, Option.bind_some]
  exact leaveF_py (encL_py _)
end Fw
end
section
set_option Elab.async false
set_option linter.all false
set_option autoImplicit false
set_option maxRecDepth 10000
set_option maxHeartbeats 2000000
/-! Pl8: agrees, all labels, least, stable. -/
namespace Fw
open PySem
def leB (a b : Lb) : Bool := decide (a = .opn) || decide (a = b)
def agB (L M : List Lb) : Bool := ((L.zip M).map fun p => leB p.1 p.2).all id
def b15 : FD := ⟨2, 2, [
  .ret (.prim .all [(.comp false (.b2 .inn (.var 2) (.tup [(.cst (.str "open")), (.var 3)])) (.tup [2, 3]) .zip [(.var 0), (.var 1)] [])])]⟩
theorem zip_map {α β : Type} (f : α → D) (g : β → D) : ∀ (xs : List α) (ys : List β), List.zipWith (fun x y => D.tup [x, y]) (xs.map f) (ys.map g) = (xs.zip ys).map fun p => D.tup [f p.1, g p.2]
  | [], ys => by simp
  | x :: xs, [] => by simp
  | x :: xs, y :: ys => by rw [List.map_cons, List.map_cons, List.zipWith_cons_cons, zip_map f g xs ys]; rfl
theorem agrees_spec {P : Prog} {i : Nat} (h : P.funs[i]? = some b15) (n : Nat) (L M : List Lb) (S : Store) (hL : L.length ≤ 1000) : run P (n + 1) i [encL L, encL M] S = some (.bl (agB L M), S) := by
  rw [run_eq h rfl]
  have e1 : ev (cal P (run P n)) (.comp false (.b2 .inn (.var 2) (.tup [(.cst (.str "open")), (.var 3)])) (.tup [2, 3]) .zip [(.var 0), (.var 1)] []) [some (encL L), some (encL M), none, none] S = some (.lst ((L.zip M).map fun p => .bl (leB p.1 p.2)), S) := by
    rw [ev_comp (ds := [encL L, encL M]) (S1 := S) (xs := (L.zip M).map fun p => D.tup [.str p.1.str, .str p.2.str]) (by simp [ev, evs, getV]) (by unfold encL; rw [items_zip_tup, zip_map]),
      compL_mapc (fun p : Lb × Lb => D.tup [.str p.1.str, .str p.2.str]) (fun p => D.bl (leB p.1 p.2)) rfl]
    · simp only [Option.bind_some, mk_f, List.length_map]
      rw [if_pos (by rw [List.length_zip]; unfold LIM; omega)]
    · rintro ⟨a, b⟩ _
      have m := memD_strs a.str ["open", b.str]
      have e : decide (a.str ∈ (["open", b.str] : List Str)) = leB a b := by cases a <;> cases b <;> simp (decide := true) [Lb.str, leB]
      simp only [List.map_cons, List.map_nil] at m
      (simp (decide := true) [exs, ex, ev, evs, evo, evc, bindT, bindL, getV, seqOf, de_str, de_int, de_bl, de_non, de_tup, de_lst, de_dic, de_inp, eqD_str, eqD_int, eqD_bl, bin_eq, bin_ne, bin_inn_tup, bin_inn_lst, bin_notin_tup, bin_notin_lst, bin_inn_str, bin_notin_str, bin_add_int, bin_sub_int, bin_add_tup, bin_add_lst, bin_lt_int, bin_gt_int, bin_le_int, bin_ge_int, bin_band, bin_bor, bin_shl, bin_shr, bin_mod, bin_fdiv, bin_mul_int, bin_mul_lst, bin_mul_tup, un_not, un_inv, idx_tup, idx_lst, idx_str, idx_dic, slc_tup, slc_lst, slc_inp, prim_len_tup, prim_len_lst, prim_len_str, prim_int_int, prim_int_bl, prim_tuple_lst, prim_tuple_tup, prim_list_lst, prim_list_tup, prim_all, prim_any, prim_sum, prim_max2, prim_sorted, prim_lr, prim_abs, atI_0, atI_1, atI_2, cut_from1, items_tup, items_lst, items_rng1, items_enum_tup, items_zip_tup, mk_f, mk_t, LIM, cal_fn, cal_W, cal_meth, cal_init, guard_nil, guard_int, guard_tup, guard_lst, m])
      simpa using e
  have key : (exs (cal P (run P n)) b15.body ([encL L, encL M].map some ++ List.replicate b15.nloc none) S) = some (.rt (.bl (agB L M)), [some (encL L), some (encL M), none, none], S) := by
    show exs (cal P (run P n)) [_] [some (encL L), some (encL M), none, none] S = _
    rw [exs_rt (ex_ret (ev_prim (ds := [_]) (evs_1 e1) ?_))]
    show prim .all [.lst _] = _
    rw [prim_all, boolsOf_map]
    rfl
  rw [key, Option.bind_some]
  exact leaveF_py0 rfl
/-! ### all labels -/
def allL : Nat → List (List Lb)
  | 0 => [[]]
  | n + 1 => (allL n).flatMap fun r => [r ++ [.inn], r ++ [.opn], r ++ [.out]]
theorem allL_length : ∀ n, (allL n).length = 3 ^ n
  | 0 => rfl
  | n + 1 => by
    rw [allL, List.length_flatMap]
    have : ((allL n).map fun r => ([r ++ [Lb.inn], r ++ [.opn], r ++ [.out]] : List (List Lb)).length) = (allL n).map fun _ => 3 := rfl
    rw [this, List.map_const', List.sum_replicate_nat, allL_length n, Nat.pow_succ]
theorem allL_mem : ∀ {n : Nat} {L : List Lb}, L ∈ allL n ↔ L.length = n
  | 0, L => by simp [allL]
  | n + 1, L => by
    rw [allL, List.mem_flatMap]
    constructor
    · rintro ⟨r, hr, h⟩
      have := allL_mem.mp hr
      simp at h
      rcases h with rfl | rfl | rfl <;> simp [this]
    · intro h
      have hne : L ≠ [] := by intro e; rw [e] at h; simp at h
      refine ⟨L.dropLast, allL_mem.mpr (by simp [h]), ?_⟩
      have := List.dropLast_concat_getLast hne
      cases hl : L.getLast hne <;> rw [hl] at this <;> simp [this]
def b2 : FD := ⟨1, 4, [
  .asg (.name 1) (.lst false [(.tup [])]),
  .for_ (.name 2) .rng1 [(.var 0)] [.asg (.name 1) (.comp2 false (.tup [(.star (.var 3)), (.var 4)]) (.name 3) .seq [(.var 1)] (.name 4) .seq [(.cst (.tup [(.str "in"), (.str "open"), (.str "out")]))])],
  .ret (.var 1)]⟩
theorem labels_spec {P : Prog} {i : Nat} (h : P.funs[i]? = some b2) (n k : Nat) (S : Store) (hk : k ≤ 10) : run P (n + 1) i [.int (k : Nat)] S = some (.lst ((allL k).map encL), S) := by
  rw [run_eq h rfl]
  have step : ∀ (j : Nat) (a b c d : Option D), j < 10 → ev (cal P (run P n)) (.comp2 false (.tup [(.star (.var 3)), (.var 4)]) (.name 3) .seq [(.var 1)] (.name 4) .seq [(.cst (.tup [(.str "in"), (.str "open"), (.str "out")]))]) [a, some (.lst ((allL j).map encL)), b, c, d] S = some (.lst ((allL (j + 1)).map encL), S) := fun j a b c d hj => by
    have p3 : 3 ^ (j + 1) ≤ 3 ^ 10 := Nat.pow_le_pow_right (by omega) (by omega)
    have lenr : ∀ r ∈ allL j, r.length ≤ 10 := fun r hr => by have := allL_mem.mp hr; omega
    rw [ev]
    simp only [evs, ev, getV, List.getElem?_cons_zero, List.getElem?_cons_succ, Option.join_some, Option.map_some, Option.bind_some, items_lst]
    rw [compL_flatc encL (fun r => [encL (r ++ [.inn]), encL (r ++ [.opn]), encL (r ++ [.out])]) rfl]
    · simp only [Option.bind_some, mk_f]
      have e : ((allL j).flatMap fun r => [encL (r ++ [Lb.inn]), encL (r ++ [.opn]), encL (r ++ [.out])]) = (allL (j + 1)).map encL := by
        rw [allL, List.map_flatMap]; rfl
      rw [e, List.length_map, allL_length, if_pos (Nat.le_trans p3 (by unfold LIM; decide))]
    · intro r hr
      have hl := lenr r hr
      have hi : items .seq S [.tup [.str "in", .str "open", .str "out"]] = some (([Lb.inn, .opn, .out]).map fun l => D.str l.str) := rfl
      show ((bindT (.name 3) (encL r) (clr [4] [a, some (.lst ((allL j).map encL)), b, c, d])).bind fun σ' => _) = _
      have hb : bindT (.name 3) (encL r) (clr [4] [a, some (.lst ((allL j).map encL)), b, c, d]) = some [a, some (.lst ((allL j).map encL)), b, some (encL r), none] := rfl
      rw [hb]
      simp only [Option.bind_some]
      rw [hi]
      simp only [Option.bind_some]
      rw [compL_mapc (fun l : Lb => D.str l.str) (fun l => encL (r ++ [l])) rfl]
      · rfl
      · intro l _
        have e1 : ([a, some (D.lst ((allL j).map encL)), b, some (encL r), none] : Ev).set 4 (some (.str l.str)) = [a, some (.lst ((allL j).map encL)), b, some (encL r), some (.str l.str)] := rfl
        simp only [bindT, e1, Option.bind_some, getV, List.getElem?_cons_zero, List.getElem?_cons_succ, Option.join_some, Option.map_some]
        unfold encL
        simp only [de_tup, seqOf, Option.bind_some, List.length_append, List.length_map, List.length_cons, List.length_nil]
        rw [if_pos (by unfold LIM; omega)]
        simp
  have loop := forL_inv (g := fun S' => guard S S' [.int (k : Nat)]) (t := .name 2) (body := fun σ S => exs (cal P (run P n)) [.asg (.name 1) (.comp2 false (.tup [(.star (.var 3)), (.var 4)]) (.name 3) .seq [(.var 1)] (.name 4) .seq [(.cst (.tup [(.str "in"), (.str "open"), (.str "out")]))])] σ S) (fun i : Nat => D.int ((i : Nat) : Int))
    (fun q σ S' => S' = S ∧ ∃ j x, q.length + j = k ∧ σ = [some (.int (k : Nat)), some (.lst ((allL j).map encL)), x, none, none])
    (fun res => ∃ x, res = some (.nx, [some (.int (k : Nat)), some (.lst ((allL k).map encL)), x, none, none], S))
    (xs := List.range k) (σ := [some (.int (k : Nat)), some (.lst ((allL 0).map encL)), none, none, none]) (S := S)
    ⟨rfl, 0, none, by simp, rfl⟩
    (fun i q σ S' ⟨hS', j, x, hj, hσ⟩ => by
      subst hS' hσ
      simp at hj
      refine ⟨_, rfl, .inl ⟨[some (.int (k : Nat)), some (.lst ((allL (j + 1)).map encL)), some (.int (i : Nat)), none, none], S', .inl ?_, rfl, rfl, j + 1, _, by omega, rfl⟩⟩
      show exs _ [_] [some (.int (k : Nat)), some (.lst ((allL j).map encL)), some (.int (i : Nat)), none, none] S' = _
      rw [exs_nx (σ' := [some (.int (k : Nat)), some (.lst ((allL (j + 1)).map encL)), some (.int (i : Nat)), none, none]) (ex_asg (step j _ _ _ _ (by omega)) rfl), exs_nil])
    (fun σ S' ⟨hS', j, x, hj, hσ⟩ => by
      subst hS' hσ
      simp at hj
      subst hj
      exact ⟨x, rfl⟩)
  obtain ⟨x, e1⟩ := loop
  have ok : okRng 0 (k : Int) = true := okRng_of (by omega) (by omega) (by omega) (by omega)
  have key : (exs (cal P (run P n)) b2.body ([.int (k : Nat)].map some ++ List.replicate b2.nloc none) S) = some (.rt (.lst ((allL k).map encL)), [some (.int (k : Nat)), some (.lst ((allL k).map encL)), x, none, none], S) := by
    show exs (cal P (run P n)) [_, _, _] [some (.int (k : Nat)), none, none, none, none] S = _
    rw [exs_nx (σ' := [some (.int (k : Nat)), some (.lst ((allL 0).map encL)), none, none, none]) (S' := S) (by (simp (decide := true) [exs, ex, ev, evs, evo, evc, bindT, bindL, getV, seqOf, de_str, de_int, de_bl, de_non, de_tup, de_lst, de_dic, de_inp, eqD_str, eqD_int, eqD_bl, bin_eq, bin_ne, bin_inn_tup, bin_inn_lst, bin_notin_tup, bin_notin_lst, bin_inn_str, bin_notin_str, bin_add_int, bin_sub_int, bin_add_tup, bin_add_lst, bin_lt_int, bin_gt_int, bin_le_int, bin_ge_int, bin_band, bin_bor, bin_shl, bin_shr, bin_mod, bin_fdiv, bin_mul_int, bin_mul_lst, bin_mul_tup, un_not, un_inv, idx_tup, idx_lst, idx_str, idx_dic, slc_tup, slc_lst, slc_inp, prim_len_tup, prim_len_lst, prim_len_str, prim_int_int, prim_int_bl, prim_tuple_lst, prim_tuple_tup, prim_list_lst, prim_list_tup, prim_all, prim_any, prim_sum, prim_max2, prim_sorted, prim_lr, prim_abs, atI_0, atI_1, atI_2, cut_from1, items_tup, items_lst, items_rng1, items_enum_tup, items_zip_tup, mk_f, mk_t, LIM, cal_fn, cal_W, cal_meth, cal_init, guard_nil, guard_int, guard_tup, guard_lst, allL, encL])),
      exs_nx (σ' := [some (.int (k : Nat)), some (.lst ((allL k).map encL)), x, none, none]) (S' := S) (by
        rw [ex_for (ds := [.int (k : Nat)]) (S1 := S) (by (simp (decide := true) [exs, ex, ev, evs, evo, evc, bindT, bindL, getV, seqOf, de_str, de_int, de_bl, de_non, de_tup, de_lst, de_dic, de_inp, eqD_str, eqD_int, eqD_bl, bin_eq, bin_ne, bin_inn_tup, bin_inn_lst, bin_notin_tup, bin_notin_lst, bin_inn_str, bin_notin_str, bin_add_int, bin_sub_int, bin_add_tup, bin_add_lst, bin_lt_int, bin_gt_int, bin_le_int, bin_ge_int, bin_band, bin_bor, bin_shl, bin_shr, bin_mod, bin_fdiv, bin_mul_int, bin_mul_lst, bin_mul_tup, un_not, un_inv, idx_tup, idx_lst, idx_str, idx_dic, slc_tup, slc_lst, slc_inp, prim_len_tup, prim_len_lst, prim_len_str, prim_int_int, prim_int_bl, prim_tuple_lst, prim_tuple_tup, prim_list_lst, prim_list_tup, prim_all, prim_any, prim_sum, prim_max2, prim_sorted, prim_lr, prim_abs, atI_0, atI_1, atI_2, cut_from1, items_tup, items_lst, items_rng1, items_enum_tup, items_zip_tup, mk_f, mk_t, LIM, cal_fn, cal_W, cal_meth, cal_init, guard_nil, guard_int, guard_tup, guard_lst])) (by rw [items_rng1, if_pos ok, rng0])]; exact e1),
      exs_rt (ex_ret rfl)]
  rw [key, Option.bind_some]
  refine leaveF_py0 ?_
  rw [D.isPy]
  exact isPys_of fun x hx => by obtain ⟨L, _, rfl⟩ := List.mem_map.mp hx; exact encL_py L
end Fw
end
section
set_option Elab.async false
set_option linter.all false
set_option autoImplicit false
set_option maxRecDepth 10000
set_option maxHeartbeats 1000000
/-! Ax: walking by rewriting. Printed by mkax.py. -/
namespace Fw
open PySem
/-- what goes on with a value: an instance argument, so that simp leaves it alone -/
class KO (α β : Type) where
  f : α → Option β
def ob {α β : Type} (x : Option α) [k : KO α β] : Option β := x.bind k.f
theorem ob_some {α β : Type} (a : α) (f : α → Option β) : @ob α β (some a) ⟨f⟩ = f a := rfl
theorem ob_none {α β : Type} (f : α → Option β) : @ob α β none ⟨f⟩ = none := rfl
theorem ob_ite {α β : Type} {c : Prop} [Decidable c] (x y : Option α) (f : α → Option β) : @ob α β (if c then x else y) ⟨f⟩ = if c then @ob α β x ⟨f⟩ else @ob α β y ⟨f⟩ := by split <;> rfl
class K2 (β : Type) where
  x : Option β
  y : Option β
/-- a branch on a truth value -/
def ifD {β : Type} (d : D) [k : K2 β] : Option β := match d with
  | .bl true => k.x
  | .bl false => k.y
  | _ => none
theorem ifD_t {β : Type} (x y : Option β) : @ifD β (.bl true) ⟨x, y⟩ = x := rfl
theorem ifD_f {β : Type} (x y : Option β) : @ifD β (.bl false) ⟨x, y⟩ = y := rfl
theorem ifD_b {β : Type} (b : Bool) (x y : Option β) : @ifD β (.bl b) ⟨x, y⟩ = if b = true then x else y := by cases b <;> rfl
class KN where
  k : Ev → Store → Res
def nxt (q : Flow × Ev × Store) [k : KN] : Res := match q.1 with
  | .nx => k.k q.2.1 q.2.2
  | _ => some q
theorem nxt_nx (σ : Ev) (S : Store) (k : Ev → Store → Res) : @nxt (.nx, σ, S) ⟨k⟩ = k σ S := rfl
theorem nxt_rt (d : D) (σ : Ev) (S : Store) (k : Ev → Store → Res) : @nxt (.rt d, σ, S) ⟨k⟩ = some (.rt d, σ, S) := rfl
theorem nxt_bk (σ : Ev) (S : Store) (k : Ev → Store → Res) : @nxt (.bk, σ, S) ⟨k⟩ = some (.bk, σ, S) := rfl
theorem nxt_ct (σ : Ev) (S : Store) (k : Ev → Store → Res) : @nxt (.ct, σ, S) ⟨k⟩ = some (.ct, σ, S) := rfl
def noStar : E → Bool
  | .star _ => false
  | _ => true
class NS (e : E) : Prop where
  h : noStar e = true
instance (d : D) : NS (.cst d) := ⟨rfl⟩
instance (i : Nat) : NS (.var i) := ⟨rfl⟩
instance (es : List E) : NS (.tup es) := ⟨rfl⟩
instance (c : Bool) (es : List E) : NS (.lst c es) := ⟨rfl⟩
instance (c : Bool) (k v : List E) : NS (.dic c k v) := ⟨rfl⟩
instance (o : B2) (a b : E) : NS (.b2 o a b) := ⟨rfl⟩
instance (p q : B2) (a b c : E) : NS (.chain p q a b c) := ⟨rfl⟩
instance (o : U1) (a : E) : NS (.u1 o a) := ⟨rfl⟩
instance (a b : E) : NS (.and a b) := ⟨rfl⟩
instance (a b : E) : NS (.or a b) := ⟨rfl⟩
instance (t a b : E) : NS (.ite t a b) := ⟨rfl⟩
instance (a b : E) : NS (.idx a b) := ⟨rfl⟩
instance (a : E) (l h : Option E) : NS (.slc a l h) := ⟨rfl⟩
instance (p : Prim) (es : List E) : NS (.prim p es) := ⟨rfl⟩
instance (k : List (D × D)) (a b : E) : NS (.cget k a b) := ⟨rfl⟩
instance (f : Nat) (es : List E) : NS (.call f es) := ⟨rfl⟩
instance (f : Nat) (es : List E) : NS (.new f es) := ⟨rfl⟩
instance (o : E) (m : Str) (es : List E) : NS (.meth o m es) := ⟨rfl⟩
instance (p : PM) (o : E) (es : List E) : NS (.pm p o es) := ⟨rfl⟩
instance (o : E) (f : Str) : NS (.fld o f) := ⟨rfl⟩
instance (c : Bool) (e : E) (t : T) (k : IK) (i d : List E) : NS (.comp c e t k i d) := ⟨rfl⟩
instance (c : Bool) (e : E) (t : T) (k : IK) (i : List E) (t2 : T) (k2 : IK) (i2 : List E) : NS (.comp2 c e t k i t2 k2 i2) := ⟨rfl⟩
instance (c : Bool) (a b : E) (t : T) (k : IK) (i d : List E) : NS (.dcomp c a b t k i d) := ⟨rfl⟩
/-- plain data -/
class Py (d : D) : Prop where
  h : d.isPy = true
class Pys (ds : List D) : Prop where
  h : D.isPys ds = true
instance : Py .non := ⟨rfl⟩
instance (b : Bool) : Py (.bl b) := ⟨rfl⟩
instance (i : Int) : Py (.int i) := ⟨rfl⟩
instance (s : Str) : Py (.str s) := ⟨rfl⟩
instance (xs : List D) [p : Pys xs] : Py (.tup xs) := ⟨by rw [D.isPy]; exact p.h⟩
instance (xs : List D) [p : Pys xs] : Py (.lst xs) := ⟨by rw [D.isPy]; exact p.h⟩
instance : Pys [] := ⟨rfl⟩
instance (x : D) (xs : List D) [p : Py x] [q : Pys xs] : Pys (x :: xs) := ⟨by rw [D.isPys, p.h, q.h]; rfl⟩
instance (xs ys : List D) [p : Pys xs] [q : Pys ys] : Pys (xs ++ ys) := ⟨by rw [D.isPys_all, List.all_append, ← D.isPys_all, ← D.isPys_all, p.h, q.h]; rfl⟩
instance {α : Type} (c : α → D) (xs : List α) [p : ∀ x, Py (c x)] : Pys (xs.map c) := ⟨by rw [D.isPys_all, List.all_map, List.all_eq_true]; intro x _; exact (p x).h⟩
instance (c : Prop) [Decidable c] (x y : D) [p : Py x] [q : Py y] : Py (if c then x else y) := ⟨by split; exact p.h; exact q.h⟩
instance (f : Fm) : Py f.enc := ⟨f.py⟩
instance (fs : List Fm) : Pys (Fm.encs fs) := ⟨Fm.pys fs⟩
instance (L : List Lb) : Py (encL L) := ⟨encL_py L⟩
/-- no reference -/
def noRef : D → Bool
  | .ref _ => false
  | _ => true
class NR (d : D) : Prop where
  h : noRef d = true
class NRs (ds : List D) : Prop where
  h : ds.all noRef = true
instance : NR .non := ⟨rfl⟩
instance (b : Bool) : NR (.bl b) := ⟨rfl⟩
instance (i : Int) : NR (.int i) := ⟨rfl⟩
instance (s : Str) : NR (.str s) := ⟨rfl⟩
instance (xs : List D) : NR (.tup xs) := ⟨rfl⟩
instance (xs : List D) : NR (.lst xs) := ⟨rfl⟩
instance (xs : List (D × D)) : NR (.dic xs) := ⟨rfl⟩
instance (xs : List D) : NR (.inp xs) := ⟨rfl⟩
instance (f : Fm) : NR f.enc := ⟨by cases f <;> rfl⟩
instance (L : List Lb) : NR (encL L) := ⟨rfl⟩
instance (c : Prop) [Decidable c] (x y : D) [p : NR x] [q : NR y] : NR (if c then x else y) := ⟨by split; exact p.h; exact q.h⟩
instance : NRs [] := ⟨rfl⟩
instance (x : D) (xs : List D) [p : NR x] [q : NRs xs] : NRs (x :: xs) := ⟨by rw [List.all_cons, p.h, q.h]; rfl⟩
theorem guard_nr {S : Store} (ds : List D) [p : NRs ds] : guard S S ds = true := by
  unfold guard
  rw [List.all_eq_true]
  intro d hd
  have := List.all_eq_true.mp p.h d hd
  cases d <;> first | rfl | (cases this)
theorem deref_nr (S : Store) (d : D) [p : NR d] : deref S d = d := by
  have := p.h
  cases d <;> first | rfl | (cases this)
/-! ### rows of typed items -/
class KC where
  g : Store → Bool
  f : D → Store → Option (List D × Store)
def cL (xs : List D) (S : Store) [k : KC] : Option (List D × Store) := compL k.g k.f xs S
class KU (α : Type) where
  g : Store → Bool
  f : α → Store → Option (List D × Store)
def compU {α : Type} (g : Store → Bool) (f : α → Store → Option (List D × Store)) : List α → Store → Option (List D × Store)
  | [], S => some ([], S)
  | x :: xs, S => (f x S).bind fun r => if g r.2 then (compU g f xs r.2).bind fun q => some (r.1 ++ q.1, q.2) else none
/-- r tells what f does at the store S0 -/
noncomputable def cV {α : Type} (xs : List α) (S0 : Store) [k : KU α] (r : (y : α) → y ∈ xs → Option (List D × Store)) : Option (List D × Store) :=
  compU k.g (fun y S => open Classical in if h : S = S0 ∧ y ∈ xs then r y h.2 else k.f y S) xs S0
theorem compU_map {α : Type} (g : Store → Bool) (f : D → Store → Option (List D × Store)) (c : α → D) : ∀ (xs : List α) (S : Store), compL g f (xs.map c) S = compU g (fun y => f (c y)) xs S
  | [], S => rfl
  | x :: xs, S => by
    rw [List.map_cons]
    unfold compL compU
    cases h : f (c x) S with
    | none => rfl
    | some r => simp only [Option.bind_some, compU_map g f c xs]
theorem cL_V {α : Type} (g : Store → Bool) (f : D → Store → Option (List D × Store)) (c : α → D) (xs : List α) (S : Store) : @cL (xs.map c) S ⟨g, f⟩ = @cV α xs S ⟨g, fun y => f (c y)⟩ (fun y _ => f (c y) S) := by
  unfold cL cV
  rw [compU_map]
  congr 1
  funext y T
  split
  · rename_i h; exact congrArg (f (c y)) h.1
  · rfl
theorem cV_done {α : Type} {g : Store → Bool} {f : α → Store → Option (List D × Store)} (h : α → List D) {S : Store} (xs : List α) (hg : g S = true) : @cV α xs S ⟨g, f⟩ (fun y _ => some (h y, S)) = some (xs.flatMap h, S) := by
  unfold cV
  have key : ∀ ys : List α, (∀ y ∈ ys, y ∈ xs) → compU g (fun y S1 => open Classical in if h1 : S1 = S ∧ y ∈ xs then some (h y, S) else f y S1) ys S = some (ys.flatMap h, S) := by
    intro ys
    induction ys with
    | nil => intro _; rfl
    | cons y ys ih =>
      intro hm
      rw [compU]
      simp only [hm y List.mem_cons_self, and_self, dite_true, Option.bind_some, hg, if_true]
      rw [ih fun z hz => hm z (List.mem_cons_of_mem _ hz)]
      simp
  exact key xs fun y h => h
theorem fm_one {α β : Type} (h : α → β) (xs : List α) : xs.flatMap (fun y => [h y]) = xs.map h := by
  induction xs with
  | nil => rfl
  | cons x xs ih => rw [List.flatMap_cons, ih]; rfl
theorem fm_if {α β : Type} (p : α → Bool) (h : α → β) (xs : List α) : xs.flatMap (fun y => if p y = true then [h y] else []) = (xs.filter p).map h := by
  induction xs with
  | nil => rfl
  | cons x xs ih =>
    rw [List.flatMap_cons, List.filter_cons, ih]
    cases p x <;> simp
theorem fm_map {α β : Type} (p : α → List β) (c : β → D) (xs : List α) : xs.flatMap (fun y => (p y).map c) = (xs.flatMap p).map c := by
  induction xs with
  | nil => rfl
  | cons x xs ih => rw [List.flatMap_cons, List.flatMap_cons, ih, List.map_append]
theorem ite_some2 {α : Type} {c : Prop} [Decidable c] (a b : α) (S : Store) : (if c then some (a, S) else some (b, S)) = some (if c then a else b, S) := by split <;> rfl
theorem ite_bl_and (p q : Bool) : (if p = true then D.bl q else D.bl false) = D.bl (p && q) := by cases p <;> rfl
theorem ite_bl_or (p q : Bool) : (if p = true then D.bl true else D.bl q) = D.bl (p || q) := by cases p <;> rfl
theorem ite_bl (c : Prop) [Decidable c] (p q : Bool) : (if c then D.bl p else D.bl q) = D.bl (if c then p else q) := by split <;> rfl
theorem ite_int (c : Prop) [Decidable c] (p q : Int) : (if c then D.int p else D.int q) = D.int (if c then p else q) := by split <;> rfl
theorem ite_str (c : Prop) [Decidable c] (p q : Str) : (if c then D.str p else D.str q) = D.str (if c then p else q) := by split <;> rfl
theorem lv0 {S : Store} {d : D} {σ : Ev} [p : Py d] : leaveF S (.rt d, σ, S) = some (d, S) := leaveF_py0 p.h
theorem lv1 {S : Store} {d : D} {σ : Ev} {c : Cell} [p : Py d] : leaveF S (.rt d, σ, S ++ [c]) = some (d, S) := leaveF_py p.h
theorem lvn0 {S : Store} {σ : Ev} : leaveF S (.nx, σ, S) = some (.non, S) := leaveF_nx0
theorem lvn1 {S : Store} {σ : Ev} {c : Cell} : leaveF S (.nx, σ, S ++ [c]) = some (.non, S) := leaveF_nx
/-! ### what each form does -/
section
variable {C : Cal} {σ : Ev} {S : Store} {e a b c t : E} {es its conds : List E} {cell : Bool}
theorem x_cst (d : D) : ev C (.cst d) σ S = some (d, S) := by rw [ev]
theorem x_var (i : Nat) : ev C (.var i) σ S = (@ob _ _ (getV σ i) ⟨fun d => some (d, S)⟩) := by rw [ev]; cases getV σ i <;> rfl
theorem x_tup : ev C (.tup es) σ S = (@ob _ _ (evs C es σ S) ⟨fun r => if r.1.length ≤ LIM then some (.tup r.1, r.2) else none⟩) := by rw [ev]; rfl
theorem x_lst : ev C (.lst cell es) σ S = (@ob _ _ (evs C es σ S) ⟨fun r => mk cell r.1 r.2⟩) := by rw [ev]; rfl
theorem x_b2 (op : B2) : ev C (.b2 op a b) σ S = (@ob _ _ (ev C a σ S) ⟨fun r => (@ob _ _ (ev C b σ r.2) ⟨fun q => (@ob _ _ (bin op (deref q.2 r.1) (deref q.2 q.1)) ⟨fun d => some (d, q.2)⟩)⟩)⟩) := by
  rw [ev]; unfold ob; congr 1; funext r; show _ = Option.bind _ _; congr 1; funext q; show _ = Option.bind _ _; cases bin op (deref q.2 r.1) (deref q.2 q.1) <;> rfl
theorem x_u1 (op : U1) : ev C (.u1 op a) σ S = (@ob _ _ (ev C a σ S) ⟨fun r => (@ob _ _ (un op r.1) ⟨fun d => some (d, r.2)⟩)⟩) := by
  rw [ev]; unfold ob; congr 1; funext r; show _ = Option.bind _ _; cases un op r.1 <;> rfl
theorem x_and : ev C (.and a b) σ S = (@ob _ _ (ev C a σ S) ⟨fun r => (@ifD _ (r.1) ⟨ev C b σ r.2, some (.bl false, r.2)⟩)⟩) := by rw [ev]; rfl
theorem x_or : ev C (.or a b) σ S = (@ob _ _ (ev C a σ S) ⟨fun r => (@ifD _ (r.1) ⟨some (.bl true, r.2), ev C b σ r.2⟩)⟩) := by rw [ev]; rfl
theorem x_ite : ev C (.ite t a b) σ S = (@ob _ _ (ev C t σ S) ⟨fun r => (@ifD _ (r.1) ⟨ev C a σ r.2, ev C b σ r.2⟩)⟩) := by rw [ev]; rfl
theorem x_chain (p q : B2) : ev C (.chain p q a b c) σ S = (@ob _ _ (ev C a σ S) ⟨fun r => (@ob _ _ (ev C b σ r.2) ⟨fun s => (@ob _ _ (bin p (deref s.2 r.1) (deref s.2 s.1)) ⟨fun x => (@ifD _ (x) ⟨(@ob _ _ (ev C c σ s.2) ⟨fun t => (@ob _ _ (bin q (deref t.2 s.1) (deref t.2 t.1)) ⟨fun d => some (d, t.2)⟩)⟩), some (.bl false, s.2)⟩)⟩)⟩)⟩) := by
  rw [ev]; unfold ob; congr 1; funext r; show _ = Option.bind _ _; congr 1; funext s; show _ = Option.bind _ _; congr 1; funext x
  have e : (ev C c σ s.2).bind (fun t => (bin q (deref t.2 s.1) (deref t.2 t.1)).map (·, t.2)) = (ev C c σ s.2).bind fun t => (bin q (deref t.2 s.1) (deref t.2 t.1)).bind fun d => some (d, t.2) := by
    congr 1; funext t; cases bin q (deref t.2 s.1) (deref t.2 t.1) <;> rfl
  rw [e]; rfl
theorem x_idx : ev C (.idx a b) σ S = (@ob _ _ (ev C a σ S) ⟨fun r => (@ob _ _ (ev C b σ r.2) ⟨fun q => (@ob _ _ (idx (deref q.2 r.1) q.1) ⟨fun d => some (d, q.2)⟩)⟩)⟩) := by
  rw [ev]; unfold ob; congr 1; funext r; show _ = Option.bind _ _; congr 1; funext q; show _ = Option.bind _ _; cases idx (deref q.2 r.1) q.1 <;> rfl
theorem x_slc (lo hi : Option E) : ev C (.slc a lo hi) σ S = (@ob _ _ (ev C a σ S) ⟨fun r => (@ob _ _ (evo C lo σ r.2) ⟨fun l => (@ob _ _ (evo C hi σ l.2) ⟨fun h => (@ob _ _ (slc (deref h.2 r.1) l.1 h.1) ⟨fun d => some (d, h.2)⟩)⟩)⟩)⟩) := by
  rw [ev]; unfold ob; congr 1; funext r; show _ = Option.bind _ _; congr 1; funext l; show _ = Option.bind _ _; congr 1; funext h; show _ = Option.bind _ _; cases slc (deref h.2 r.1) l.1 h.1 <;> rfl
theorem x_prim (p : Prim) : ev C (.prim p es) σ S = (@ob _ _ (evs C es σ S) ⟨fun r => (@ob _ _ (prim p (r.1.map (deref r.2))) ⟨fun d => some (d, r.2)⟩)⟩) := by
  rw [ev]; unfold ob; congr 1; funext r; show _ = Option.bind _ _; cases prim p (r.1.map (deref r.2)) <;> rfl
theorem x_call (f : Nat) : ev C (.call f es) σ S = (@ob _ _ (evs C es σ S) ⟨fun r => C.fn f r.1 r.2⟩) := by rw [ev]; rfl
def asInt (d : D) (S : Store) : Option (Option Int × Store) := match d with
  | .int i => some (some i, S)
  | _ => none
theorem asInt_i (i : Int) (S : Store) : asInt (.int i) S = some (some i, S) := rfl
theorem x_evo_n : evo C none σ S = some (none, S) := by rw [evo]
theorem x_evo_s : evo C (some e) σ S = (@ob _ _ (ev C e σ S) ⟨fun r => asInt r.1 r.2⟩) := by rw [evo]; rfl
theorem x_evs_nil : evs C [] σ S = some ([], S) := by rw [evs]
theorem x_evs [h : NS e] : evs C (e :: es) σ S = (@ob _ _ (ev C e σ S) ⟨fun r => (@ob _ _ (evs C es σ r.2) ⟨fun q => some (r.1 :: q.1, q.2)⟩)⟩) := by
  rw [evs]
  · rfl
  · intro x hx; subst hx; cases h.h
theorem x_evs_star : evs C (.star e :: es) σ S = (@ob _ _ (ev C e σ S) ⟨fun r => (@ob _ _ (seqOf (deref r.2 r.1)) ⟨fun xs => (@ob _ _ (evs C es σ r.2) ⟨fun q => some (xs ++ q.1, q.2)⟩)⟩)⟩) := by rw [evs]; rfl
theorem x_evc_nil : evc C [] σ S = some (true, S) := by rw [evc]
theorem x_evc1 : evc C [e] σ S = (@ob _ _ (ev C e σ S) ⟨fun r => (@ifD _ (r.1) ⟨some (true, r.2), some (false, r.2)⟩)⟩) := by
  rw [evc]; unfold ob; congr 1
theorem x_comp {elt : E} {t : T} {k : IK} : ev C (.comp cell elt t k its conds) σ S = (@ob _ _ (evs C its σ S) ⟨fun r => (@ob _ _ (items k r.2 r.1) ⟨fun xs => (@ob _ _ (@cL xs r.2 ⟨fun S' => guard r.2 S' r.1, fun x S1 => (@ob _ _ (bindT t x σ) ⟨fun σ' => (@ob _ _ (evc C conds σ' S1) ⟨fun b => (@ifD _ (.bl b.1) ⟨(@ob _ _ (ev C elt σ' b.2) ⟨fun y => some ([y.1], y.2)⟩), some ([], b.2)⟩)⟩)⟩)⟩) ⟨fun q => mk cell q.1 q.2⟩)⟩)⟩) := by
  rw [ev]; unfold ob; congr 1; funext r; show _ = Option.bind _ _; congr 1; funext xs; show _ = Option.bind _ _; congr 1; show compL _ _ _ _ = compL _ _ _ _; congr 1; funext x S1; show _ = Option.bind _ _; congr 1; funext σ'; show _ = Option.bind _ _; congr 1; funext b
  obtain ⟨b1, b2⟩ := b
  cases b1 <;> rfl
theorem x_comp2 {elt : E} {t t2 : T} {k k2 : IK} {its2 : List E} : ev C (.comp2 cell elt t k its t2 k2 its2) σ S = (@ob _ _ (evs C its σ S) ⟨fun r => (@ob _ _ (items k r.2 r.1) ⟨fun xs => (@ob _ _ (@cL xs r.2 ⟨fun S' => guard r.2 S' r.1, fun x S1 => (@ob _ _ (bindT t x (clr t2.slots σ)) ⟨fun σ' => (@ob _ _ (evs C its2 σ' S1) ⟨fun r2 => (@ob _ _ (items k2 r2.2 r2.1) ⟨fun xs2 => @cL xs2 r2.2 ⟨fun S' => guard r2.2 S' r2.1, fun x2 S2 => (@ob _ _ (bindT t2 x2 σ') ⟨fun σ2 => (@ob _ _ (ev C elt σ2 S2) ⟨fun y => some ([y.1], y.2)⟩)⟩)⟩⟩)⟩)⟩)⟩) ⟨fun q => mk cell q.1 q.2⟩)⟩)⟩) := by rw [ev]; rfl
theorem cL_nil {g : Store → Bool} {f : D → Store → Option (List D × Store)} : @cL [] S ⟨g, f⟩ = some ([], S) := rfl
theorem cL_cons {g : Store → Bool} {f : D → Store → Option (List D × Store)} {x : D} {xs : List D} : @cL (x :: xs) S ⟨g, f⟩ = (@ob _ _ (f x S) ⟨fun r => if g r.2 = true then (@ob _ _ (@cL xs r.2 ⟨g, f⟩) ⟨fun q => some (r.1 ++ q.1, q.2)⟩) else none⟩) := by
  unfold cL; rw [compL]; rfl
theorem x_exs_nil : exs C [] σ S = some (.nx, σ, S) := by rw [exs]
theorem x_exs (st : Stm) (r : List Stm) : exs C (st :: r) σ S = (@ob _ _ (ex C st σ S) ⟨fun q => @nxt q ⟨fun σ S => exs C r σ S⟩⟩) := by
  rw [exs]; rfl
theorem x_asg (t : T) : ex C (.asg t e) σ S = (@ob _ _ (ev C e σ S) ⟨fun r => (@ob _ _ (bindT t r.1 σ) ⟨fun σ' => some (.nx, σ', r.2)⟩)⟩) := by rw [ex]; rfl
theorem x_ret : ex C (.ret e) σ S = (@ob _ _ (ev C e σ S) ⟨fun r => some (.rt r.1, σ, r.2)⟩) := by rw [ex]; rfl
theorem x_retN : ex C .retN σ S = some (.rt .non, σ, S) := by rw [ex]
theorem x_expr : ex C (.expr e) σ S = (@ob _ _ (ev C e σ S) ⟨fun r => some (.nx, σ, r.2)⟩) := by rw [ex]; rfl
theorem x_par (is : List Nat) : ex C (.par is es) σ S = (@ob _ _ (evs C es σ S) ⟨fun r => (@ob _ _ (bindL is r.1 σ) ⟨fun σ' => some (.nx, σ', r.2)⟩)⟩) := by rw [ex]; rfl
theorem x_ife (x y : List Stm) : ex C (.ife e x y) σ S = (@ob _ _ (ev C e σ S) ⟨fun r => (@ifD _ (r.1) ⟨exs C x σ r.2, exs C y σ r.2⟩)⟩) := by rw [ex]; rfl
class KF where
  g : Store → Bool
  t : T
  b : Ev → Store → Res
def fL (xs : List D) (σ : Ev) (S : Store) [k : KF] : Res := forL k.g k.t k.b xs σ S
theorem fL_eq {g : Store → Bool} {t : T} {b : Ev → Store → Res} {xs : List D} {q : Res} (h : forL g t b xs σ S = q) : @fL xs σ S ⟨g, t, b⟩ = q := h
theorem x_for (t : T) (k : IK) (body : List Stm) : ex C (.for_ t k its body) σ S = (@ob _ _ (evs C its σ S) ⟨fun r => (@ob _ _ (items k r.2 r.1) ⟨fun xs => @fL xs σ r.2 ⟨fun s' => guard r.2 s' r.1, t, fun σ s => exs C body σ s⟩⟩)⟩) := by rw [ex]; rfl
theorem x_brk : ex C .brk σ S = some (.bk, σ, S) := by rw [ex]
theorem x_cont : ex C .cont σ S = some (.ct, σ, S) := by rw [ex]
theorem x_pass : ex C .pass σ S = some (.nx, σ, S) := by rw [ex]
theorem mk_ff {xs : List D} (h : xs.length ≤ 16777216) : mk false xs S = some (.lst xs, S) := by
  rw [mk_f]; exact if_pos h
theorem mk_tt {xs : List D} (h : xs.length ≤ 16777216) : mk true xs S = some (.ref S.length, S ++ [.lst xs]) := by
  rw [mk_t]; exact if_pos h
theorem tup_lim {β : Type} {xs : List D} {x y : Option β} (h : xs.length ≤ 16777216) : (if xs.length ≤ LIM then x else y) = x := if_pos h
theorem add_tup {xs ys : List D} (h : xs.length + ys.length ≤ 16777216) : bin .add (.tup xs) (.tup ys) = some (.tup (xs ++ ys)) := by rw [bin_add_tup]; exact if_pos h
theorem add_lst {xs ys : List D} (h : xs.length + ys.length ≤ 16777216) : bin .add (.lst xs) (.lst ys) = some (.lst (xs ++ ys)) := by rw [bin_add_lst]; exact if_pos h
theorem run_ax {P : Prog} {n i : Nat} {fd : FD} {args : List D} (h : P.funs[i]? = some fd) (hl : args.length = fd.npar) : run P (n + 1) i args S = @ob _ _ (exs (cal P (run P n)) fd.body (args.map some ++ List.replicate fd.nloc none) S) ⟨leaveF S⟩ := run_eq h hl
end
theorem getV_0 (x : Option D) (σ : Ev) : getV (x :: σ) 0 = x := by unfold getV; rw [List.getElem?_cons_zero]; rfl
theorem getV_s (x : Option D) (σ : Ev) (n : Nat) : getV (x :: σ) (n + 1) = getV σ n := by unfold getV; rw [List.getElem?_cons_succ]
theorem bindT_name (i : Nat) (d : D) (σ : Ev) : bindT (.name i) d σ = some (σ.set i (some d)) := rfl
theorem bindT_tup (is : List Nat) (ds : List D) (σ : Ev) : bindT (.tup is) (.tup ds) σ = bindL is ds σ := rfl
theorem bindL_nil (σ : Ev) : bindL [] [] σ = some σ := rfl
theorem bindL_cons (i : Nat) (is : List Nat) (d : D) (ds : List D) (σ : Ev) : bindL (i :: is) (d :: ds) σ = bindL is ds (σ.set i (some d)) := rfl
theorem seqOf_tup (xs : List D) : seqOf (.tup xs) = some xs := rfl
theorem seqOf_lst (xs : List D) : seqOf (.lst xs) = some xs := rfl
theorem all_map {α : Type} (p : α → Bool) (l : List α) : (l.map p).all id = l.all p := by rw [List.all_map]; rfl
theorem any_map {α : Type} (p : α → Bool) (l : List α) : (l.map p).any id = l.any p := by rw [List.any_map]; rfl
theorem items_r1 {S : Store} {n : Nat} (h : n ≤ 1000000) : items .rng1 S [.int (n : Nat)] = some ((List.range n).map fun i : Nat => D.int (i : Nat)) := by
  rw [items_rng1, if_pos (okRng_of (by omega) (by omega) (by omega) (by omega)), rng0]
/-- rows of texts -/
theorem mem_strs (x : Str) (ys : List Str) : memD (.str x) (ys.map .str) = some (decide (x ∈ ys)) := memD_strs x ys
theorem atI_get {α β : Type} [Inhabited α] {l : List α} {c : α → β} {n : Nat} (h : n < l.length) : L2.atI (l.map c) (n : Int) = some (c l[n]!) := by
  rw [atI_nat, List.getElem?_map, List.getElem?_eq_getElem h, getElem!_pos l n h]; rfl
end Fw
end
section
set_option Elab.async false
set_option linter.all false
set_option autoImplicit false
set_option maxRecDepth 10000
set_option maxHeartbeats 2000000
/-! Pl9: least labels, stable labels. -/
namespace Fw
open PySem
def objF (cs : List Str) (fs : List Fm) : List (Str × D) := [("order", .tup (cs.map .str)), ("many", .int (cs.length : Nat)), ("choices", choicesD cs.length), ("places", .dic (placesL 0 cs)), ("truths", truthsD cs fs)]
def b13 : FD := ⟨1, 1, [
  .asg (.name 1) (.b2 .mul (.tup [(.cst (.str "open"))]) (.fld (.var 0) "many")),
  .while_ (.b2 .ne (.meth (.var 0) "after" [(.var 1)]) (.var 1)) [.asg (.name 1) (.meth (.var 0) "after" [(.var 1)])],
  .ret (.var 1)]⟩
def b14 : FD := ⟨2, 5, [
  .ife (.or (.b2 .inn (.cst (.str "open")) (.var 1)) (.b2 .ne (.meth (.var 0) "after" [(.var 1)]) (.var 1))) [.ret (.cst (.bl false))] [],
  .asg (.name 2) (.prim .tuple [(.comp false (.ite (.b2 .eq (.var 5) (.cst (.str "out"))) (.cst (.str "out")) (.cst (.str "open"))) (.name 5) .seq [(.var 1)] [])]),
  .while_ (.cst (.bl true)) [.asg (.name 3) (.meth (.var 0) "after" [(.var 2)]), .asg (.name 4) (.prim .tuple [(.comp false (.ite (.b2 .eq (.var 5) (.cst (.str "out"))) (.var 5) (.idx (.var 3) (.var 6))) (.tup [6, 5]) .enum [(.var 2)] [])]), .ife (.b2 .eq (.var 4) (.var 2)) [.ret (.b2 .eq (.var 2) (.var 1))] [], .asg (.name 2) (.var 4)]]⟩
/-- the functions of conditions, where they stand -/
structure Base (P : Prog) (o : Nat → Nat) (cc : Nat) : Prop where
  f0 : P.funs[o 0]? = some b0
  f1 : P.funs[o 1]? = some b1
  f2 : P.funs[o 2]? = some b2
  f3 : P.funs[o 3]? = some b3
  f4 : P.funs[o 4]? = some (b4 o)
  f5 : P.funs[o 5]? = some (b5 o)
  f6 : P.funs[o 6]? = some (b6 o)
  f10 : P.funs[o 10]? = some (b10 o)
  f11 : P.funs[o 11]? = some b11
  f12 : P.funs[o 12]? = some b12
  f13 : P.funs[o 13]? = some b13
  f14 : P.funs[o 14]? = some b14
  f15 : P.funs[o 15]? = some b15
  mi : (P.meths[cc]?).bind (lookM "__init__") = some (o 9)
  mh : (P.meths[cc]?).bind (lookM "holds") = some (o 10)
  ml : (P.meths[cc]?).bind (lookM "allowed") = some (o 11)
  ma : (P.meths[cc]?).bind (lookM "after") = some (o 12)
  me : (P.meths[cc]?).bind (lookM "least") = some (o 13)
  ms : (P.meths[cc]?).bind (lookM "is_stable") = some (o 14)
  W : P.W = 1000
section
variable {P : Prog} {o : Nat → Nat} {cc : Nat}
theorem after_obj (B : Base P o cc) (n : Nat) (cs : List Str) (fs : List Fm) (L : List Lb) (S : Store) (r : Nat) (hL : L.length ≤ 10) (hk : cs.length ≤ 10) (hfs : fs.length ≤ 10) (hS : S[r]? = some (.ins cc (objF cs fs))) :
    run P (n + 2) (o 12) [.ref r, encL L] S = some (encL (gams cs fs L), S) :=
  after_spec B.f11 B.f12 B.ml n cs fs L S r (objF cs fs) hL hk hfs hS rfl rfl rfl
/-- a method of the object -/
theorem ev_meth {C : Cal} {ob : E} {m : Str} {es : List E} {σ : Ev} {S : Store} {r cl f : Nat} {flds : List (Str × D)} {ds : List D} {q : Option (D × Store)} (h1 : ev C ob σ S = some (.ref r, S)) (hS : S[r]? = some (.ins cl flds)) (hn : lookF m flds = none) (hm : C.meth cl m = some f) (h2 : evs C es σ S = some (ds, S)) (h3 : C.fn f (.ref r :: ds) S = q) : ev C (.meth ob m es) σ S = q := by
  rw [ev, h1]
  simp only [Option.bind_some, hS, hn, Option.isSome_none, Bool.false_eq_true, if_false, hm, h2, if_true, h3]
theorem ev_after (B : Base P o cc) (n : Nat) {cs : List Str} {fs : List Fm} {L : List Lb} {S : Store} {r : Nat} {σ : Ev} {e e' : E} (hL : L.length ≤ 10) (hk : cs.length ≤ 10) (hfs : fs.length ≤ 10) (hS : S[r]? = some (.ins cc (objF cs fs))) (h1 : ev (cal P (run P (n + 2))) e σ S = some (.ref r, S)) (h2 : ev (cal P (run P (n + 2))) e' σ S = some (encL L, S)) :
    ev (cal P (run P (n + 2))) (.meth e "after" [e']) σ S = some (encL (gams cs fs L), S) :=
  ev_meth h1 hS rfl (by rw [cal_meth]; exact B.ma) (evs_1 h2) (after_obj B n cs fs L S r hL hk hfs hS)
theorem ev_ne {C : Cal} {a b : E} {σ : Ev} {S : Store} {L M : List Lb} (h1 : ev C a σ S = some (encL L, S)) (h2 : ev C b σ S = some (encL M, S)) : ev C (.b2 .ne a b) σ S = some (.bl (!decide (L = M)), S) := by
  rw [ev, h1]
  simp only [Option.bind_some, h2, de_encL, bin_ne, eqD_L, Option.map_some]
theorem ev_eq {C : Cal} {a b : E} {σ : Ev} {S : Store} {L M : List Lb} (h1 : ev C a σ S = some (encL L, S)) (h2 : ev C b σ S = some (encL M, S)) : ev C (.b2 .eq a b) σ S = some (.bl (decide (L = M)), S) := by
  rw [ev, h1]
  simp only [Option.bind_some, h2, de_encL, bin_eq, eqD_L, Option.map_some]
/-- the first fixed point on the way -/
def fixOf (f : List Lb → List Lb) : Nat → List Lb → List Lb
  | 0, L => L
  | k + 1, L => if f L = L then L else fixOf f k (f L)
theorem gams_length (cs : List Str) (fs : List Fm) (L : List Lb) : (gams cs fs L).length = fs.length := by unfold gams; rw [List.length_map]
theorem rep_one (n : Nat) (d : D) : rep n [d] = List.replicate n d := by
  unfold rep
  induction n with
  | zero => rfl
  | succ n ih => rw [List.replicate_succ, List.flatten_cons, ih]; rfl
theorem least_spec (B : Base P o cc) (n : Nat) (cs : List Str) (fs : List Fm) (S : Store) (r : Nat) (hk : cs.length ≤ 10) (hfs : fs.length = cs.length) (hS : S[r]? = some (.ins cc (objF cs fs))) (k : Nat) (hkk : k < 900)
    (hfix : gams cs fs (fixOf (gams cs fs) k (List.replicate cs.length .opn)) = fixOf (gams cs fs) k (List.replicate cs.length .opn)) :
    run P (n + 3) (o 13) [.ref r] S = some (encL (fixOf (gams cs fs) k (List.replicate cs.length .opn)), S) := by
  rw [run_eq B.f13 rfl]
  have loop : ∀ (k m : Nat) (L : List Lb), k < m → L.length ≤ 10 → gams cs fs (fixOf (gams cs fs) k L) = fixOf (gams cs fs) k L →
      whileL (fun σ s => ev (cal P (run P (n + 2))) (.b2 .ne (.meth (.var 0) "after" [(.var 1)]) (.var 1)) σ s) (fun σ s => exs (cal P (run P (n + 2))) [.asg (.name 1) (.meth (.var 0) "after" [(.var 1)])] σ s) m [some (.ref r), some (encL L)] S = some (.nx, [some (.ref r), some (encL (fixOf (gams cs fs) k L))], S) := by
    intro k
    induction k with
    | zero =>
      intro m L hm hL hf
      obtain ⟨m, rfl⟩ : ∃ m', m = m' + 1 := ⟨m - 1, by omega⟩
      have ea := ev_after B n (σ := [some (.ref r), some (encL L)]) (e := .var 0) (e' := .var 1) hL hk (by omega) hS rfl rfl
      have hf' : gams cs fs L = L := hf
      unfold whileL
      rw [ev_ne ea rfl]
      simp [fixOf, hf']
    | succ k ih =>
      intro m L hm hL hf
      obtain ⟨m, rfl⟩ : ∃ m', m = m' + 1 := ⟨m - 1, by omega⟩
      have ea := ev_after B n (σ := [some (.ref r), some (encL L)]) (e := .var 0) (e' := .var 1) hL hk (by omega) hS rfl rfl
      unfold whileL
      rw [ev_ne ea rfl]
      by_cases q : gams cs fs L = L
      · simp [fixOf, q]
      · have hs : exs (cal P (run P (n + 2))) [.asg (.name 1) (.meth (.var 0) "after" [(.var 1)])] [some (.ref r), some (encL L)] S = some (.nx, [some (.ref r), some (encL (gams cs fs L))], S) := by
          rw [exs_nx (σ' := [some (.ref r), some (encL (gams cs fs L))]) (ex_asg ea rfl), exs_nil]
        have hf' : gams cs fs (fixOf (gams cs fs) k (gams cs fs L)) = fixOf (gams cs fs) k (gams cs fs L) := by
          have := hf
          rw [fixOf, if_neg q] at this
          exact this
        have := ih m (gams cs fs L) (by omega) (by rw [gams_length]; omega) hf'
        simp only [q, decide_false, Bool.not_false, Option.bind_some, hs, this, fixOf, if_false]
  have key : (exs (cal P (run P (n + 2))) b13.body ([.ref r].map some ++ List.replicate b13.nloc none) S) = some (.rt (encL (fixOf (gams cs fs) k (List.replicate cs.length .opn))), [some (.ref r), some (encL (fixOf (gams cs fs) k (List.replicate cs.length .opn)))], S) := by
    show exs (cal P (run P (n + 2))) [_, _, _] [some (.ref r), none] S = _
    have h1 : (cs.length : Int) ≤ 1000 := by omega
    have hm : lookF "many" (objF cs fs) = some (.int (cs.length : Nat)) := rfl
    rw [exs_nx (σ' := [some (.ref r), some (encL (List.replicate cs.length .opn))]) (S' := S) (by
        (simp (decide := true) [exs, ex, ev, evs, evo, evc, bindT, bindL, getV, seqOf, de_str, de_int, de_bl, de_non, de_tup, de_lst, de_dic, de_inp, eqD_str, eqD_int, eqD_bl, bin_eq, bin_ne, bin_inn_tup, bin_inn_lst, bin_notin_tup, bin_notin_lst, bin_inn_str, bin_notin_str, bin_add_int, bin_sub_int, bin_add_tup, bin_add_lst, bin_lt_int, bin_gt_int, bin_le_int, bin_ge_int, bin_band, bin_bor, bin_shl, bin_shr, bin_mod, bin_fdiv, bin_mul_int, bin_mul_lst, bin_mul_tup, un_not, un_inv, idx_tup, idx_lst, idx_str, idx_dic, slc_tup, slc_lst, slc_inp, prim_len_tup, prim_len_lst, prim_len_str, prim_int_int, prim_int_bl, prim_tuple_lst, prim_tuple_tup, prim_list_lst, prim_list_tup, prim_all, prim_any, prim_sum, prim_max2, prim_sorted, prim_lr, prim_abs, atI_0, atI_1, atI_2, cut_from1, items_tup, items_lst, items_rng1, items_enum_tup, items_zip_tup, mk_f, mk_t, LIM, cal_fn, cal_W, cal_meth, cal_init, guard_nil, guard_int, guard_tup, guard_lst, hS, hm, h1, rep_one])
        unfold encL
        rw [List.map_replicate]
        rfl),
      exs_nx (σ' := [some (.ref r), some (encL (fixOf (gams cs fs) k (List.replicate cs.length .opn)))]) (S' := S) (by
        rw [ex, cal_W, B.W]
        exact loop k 1000 _ (by omega) (by simp; omega) hfix),
      exs_rt (ex_ret rfl)]
  rw [key, Option.bind_some]
  exact leaveF_py0 (encL_py _)
/-! ### stable -/
def stStep (cs : List Str) (fs : List Fm) (F : List Lb) : List Lb := F.zipIdx.map fun p => if p.1 = .out then .out else (gams cs fs F).getD p.2 .opn
def stStart (L : List Lb) : List Lb := L.map fun l => if l = .out then .out else .opn
theorem stStep_length (cs : List Str) (fs : List Fm) (F : List Lb) : (stStep cs fs F).length = F.length := by unfold stStep; simp
theorem memD_open (L : List Lb) : memD (.str "open") (L.map fun l => .str l.str) = some (decide (Lb.opn ∈ L)) := by
  have : (L.map fun l => D.str l.str) = (L.map Lb.str).map .str := by rw [List.map_map]; rfl
  rw [this, memD_strs]
  congr 1
  rw [decide_eq_decide]
  constructor
  · intro h
    obtain ⟨l, hl, e⟩ := List.mem_map.mp h
    have : l = .opn := Lb.str_inj.mp e
    exact this ▸ hl
  · intro h
    exact List.mem_map.mpr ⟨.opn, h, rfl⟩
theorem stable_spec (B : Base P o cc) (n : Nat) (cs : List Str) (fs : List Fm) (L : List Lb) (S : Store) (r : Nat) (hk : cs.length ≤ 10) (hfs : fs.length = cs.length) (hL : L.length = cs.length) (hS : S[r]? = some (.ins cc (objF cs fs))) (k : Nat) (hkk : k < 900)
    (hfix : stStep cs fs (fixOf (stStep cs fs) k (stStart L)) = fixOf (stStep cs fs) k (stStart L)) :
    run P (n + 3) (o 14) [.ref r, encL L] S = some (.bl (!decide (Lb.opn ∈ L) && decide (gams cs fs L = L) && decide (fixOf (stStep cs fs) k (stStart L) = L)), S) := by
  rw [run_eq B.f14 rfl]
  have step : ∀ (F : List Lb) (x y : Option D), F.length = cs.length → exs (cal P (run P (n + 2))) [.asg (.name 3) (.meth (.var 0) "after" [(.var 2)]), .asg (.name 4) (.prim .tuple [(.comp false (.ite (.b2 .eq (.var 5) (.cst (.str "out"))) (.var 5) (.idx (.var 3) (.var 6))) (.tup [6, 5]) .enum [(.var 2)] [])]), .ife (.b2 .eq (.var 4) (.var 2)) [.ret (.b2 .eq (.var 2) (.var 1))] [], .asg (.name 2) (.var 4)] [some (.ref r), some (encL L), some (encL F), x, y, none, none] S =
      (if stStep cs fs F = F then some (.rt (.bl (decide (F = L))), [some (.ref r), some (encL L), some (encL F), some (encL (gams cs fs F)), some (encL (stStep cs fs F)), none, none], S) else some (.nx, [some (.ref r), some (encL L), some (encL (stStep cs fs F)), some (encL (gams cs fs F)), some (encL (stStep cs fs F)), none, none], S)) := fun F x y hF => by
    have ea := ev_after B n (σ := [some (.ref r), some (encL L), some (encL F), x, y, none, none]) (e := .var 0) (e' := .var 2) (by omega) hk (by omega) hS rfl rfl
    have ec : ev (cal P (run P (n + 2))) (.comp false (.ite (.b2 .eq (.var 5) (.cst (.str "out"))) (.var 5) (.idx (.var 3) (.var 6))) (.tup [6, 5]) .enum [(.var 2)] []) [some (.ref r), some (encL L), some (encL F), some (encL (gams cs fs F)), y, none, none] S = some (.lst ((stStep cs fs F).map fun l => .str l.str), S) := by
      rw [ev_comp (ds := [encL F]) (S1 := S) (xs := F.zipIdx.map fun p => D.tup [.int (p.2 : Nat), .str p.1.str]) (by simp [ev, evs, getV]) (by unfold encL; rw [items_enum_tup, enum_map]),
        compL_mapc (fun p : Lb × Nat => D.tup [.int (p.2 : Nat), .str p.1.str]) (fun p => D.str (if p.1 = .out then Lb.out else (gams cs fs F).getD p.2 .opn).str) rfl]
      · simp only [Option.bind_some, mk_f, List.length_map, List.length_zipIdx]
        rw [if_pos (by unfold LIM; omega)]
        unfold stStep
        rw [List.map_map]
        rfl
      · rintro ⟨l, i⟩ hp
        have hi : i < F.length := by have := List.mem_zipIdx hp; omega
        have hg : i < (gams cs fs F).length := by rw [gams_length]; omega
        have e : L2.atI ((gams cs fs F).map fun l => D.str l.str) (i : Int) = some (.str ((gams cs fs F).getD i .opn).str) := by
          rw [atI_nat, List.getElem?_map, List.getElem?_eq_getElem hg, List.getD_eq_getElem?_getD, List.getElem?_eq_getElem hg]; rfl
        cases l with
        | out => (simp (decide := true) [exs, ex, ev, evs, evo, evc, bindT, bindL, getV, seqOf, de_str, de_int, de_bl, de_non, de_tup, de_lst, de_dic, de_inp, eqD_str, eqD_int, eqD_bl, bin_eq, bin_ne, bin_inn_tup, bin_inn_lst, bin_notin_tup, bin_notin_lst, bin_inn_str, bin_notin_str, bin_add_int, bin_sub_int, bin_add_tup, bin_add_lst, bin_lt_int, bin_gt_int, bin_le_int, bin_ge_int, bin_band, bin_bor, bin_shl, bin_shr, bin_mod, bin_fdiv, bin_mul_int, bin_mul_lst, bin_mul_tup, un_not, un_inv, idx_tup, idx_lst, idx_str, idx_dic, slc_tup, slc_lst, slc_inp, prim_len_tup, prim_len_lst, prim_len_str, prim_int_int, prim_int_bl, prim_tuple_lst, prim_tuple_tup, prim_list_lst, prim_list_tup, prim_all, prim_any, prim_sum, prim_max2, prim_sorted, prim_lr, prim_abs, atI_0, atI_1, atI_2, cut_from1, items_tup, items_lst, items_rng1, items_enum_tup, items_zip_tup, mk_f, mk_t, LIM, cal_fn, cal_W, cal_meth, cal_init, guard_nil, guard_int, guard_tup, guard_lst])
        | inn =>
          have e1 : ¬ (Lb.inn.str = "out") := by decide
          simp only [List.getD_eq_getElem?_getD] at e
          (simp (decide := true) [exs, ex, ev, evs, evo, evc, bindT, bindL, getV, seqOf, de_str, de_int, de_bl, de_non, de_tup, de_lst, de_dic, de_inp, eqD_str, eqD_int, eqD_bl, bin_eq, bin_ne, bin_inn_tup, bin_inn_lst, bin_notin_tup, bin_notin_lst, bin_inn_str, bin_notin_str, bin_add_int, bin_sub_int, bin_add_tup, bin_add_lst, bin_lt_int, bin_gt_int, bin_le_int, bin_ge_int, bin_band, bin_bor, bin_shl, bin_shr, bin_mod, bin_fdiv, bin_mul_int, bin_mul_lst, bin_mul_tup, un_not, un_inv, idx_tup, idx_lst, idx_str, idx_dic, slc_tup, slc_lst, slc_inp, prim_len_tup, prim_len_lst, prim_len_str, prim_int_int, prim_int_bl, prim_tuple_lst, prim_tuple_tup, prim_list_lst, prim_list_tup, prim_all, prim_any, prim_sum, prim_max2, prim_sorted, prim_lr, prim_abs, atI_0, atI_1, atI_2, cut_from1, items_tup, items_lst, items_rng1, items_enum_tup, items_zip_tup, mk_f, mk_t, LIM, cal_fn, cal_W, cal_meth, cal_init, guard_nil, guard_int, guard_tup, guard_lst, encL, e, e1])
        | opn =>
          have e1 : ¬ (Lb.opn.str = "out") := by decide
          simp only [List.getD_eq_getElem?_getD] at e
          (simp (decide := true) [exs, ex, ev, evs, evo, evc, bindT, bindL, getV, seqOf, de_str, de_int, de_bl, de_non, de_tup, de_lst, de_dic, de_inp, eqD_str, eqD_int, eqD_bl, bin_eq, bin_ne, bin_inn_tup, bin_inn_lst, bin_notin_tup, bin_notin_lst, bin_inn_str, bin_notin_str, bin_add_int, bin_sub_int, bin_add_tup, bin_add_lst, bin_lt_int, bin_gt_int, bin_le_int, bin_ge_int, bin_band, bin_bor, bin_shl, bin_shr, bin_mod, bin_fdiv, bin_mul_int, bin_mul_lst, bin_mul_tup, un_not, un_inv, idx_tup, idx_lst, idx_str, idx_dic, slc_tup, slc_lst, slc_inp, prim_len_tup, prim_len_lst, prim_len_str, prim_int_int, prim_int_bl, prim_tuple_lst, prim_tuple_tup, prim_list_lst, prim_list_tup, prim_all, prim_any, prim_sum, prim_max2, prim_sorted, prim_lr, prim_abs, atI_0, atI_1, atI_2, cut_from1, items_tup, items_lst, items_rng1, items_enum_tup, items_zip_tup, mk_f, mk_t, LIM, cal_fn, cal_W, cal_meth, cal_init, guard_nil, guard_int, guard_tup, guard_lst, encL, e, e1])
    have et : ev (cal P (run P (n + 2))) (.prim .tuple [(.comp false (.ite (.b2 .eq (.var 5) (.cst (.str "out"))) (.var 5) (.idx (.var 3) (.var 6))) (.tup [6, 5]) .enum [(.var 2)] [])]) [some (.ref r), some (encL L), some (encL F), some (encL (gams cs fs F)), y, none, none] S = some (encL (stStep cs fs F), S) := ev_prim (evs_1 ec) rfl
    rw [exs_nx (σ' := [some (.ref r), some (encL L), some (encL F), some (encL (gams cs fs F)), y, none, none]) (ex_asg ea rfl),
      exs_nx (σ' := [some (.ref r), some (encL L), some (encL F), some (encL (gams cs fs F)), some (encL (stStep cs fs F)), none, none]) (ex_asg et rfl)]
    have ee := ev_eq (C := cal P (run P (n + 2))) (a := .var 4) (b := .var 2) (σ := [some (.ref r), some (encL L), some (encL F), some (encL (gams cs fs F)), some (encL (stStep cs fs F)), none, none]) (S := S) (L := stStep cs fs F) (M := F) rfl rfl
    by_cases q : stStep cs fs F = F
    · rw [if_pos q]
      rw [q] at ee ⊢
      have e2 := ev_eq (C := cal P (run P (n + 2))) (a := .var 2) (b := .var 1) (σ := [some (.ref r), some (encL L), some (encL F), some (encL (gams cs fs F)), some (encL F), none, none]) (S := S) (L := F) (M := L) rfl rfl
      rw [exs_rt (d := .bl (decide (F = L))) (σ' := [some (.ref r), some (encL L), some (encL F), some (encL (gams cs fs F)), some (encL F), none, none]) (S' := S) (by rw [ex_if_t (S1 := S) (by rw [ee]; simp)]; exact exs_rt (ex_ret e2))]
    · rw [if_neg q]
      rw [exs_nx (σ' := [some (.ref r), some (encL L), some (encL F), some (encL (gams cs fs F)), some (encL (stStep cs fs F)), none, none]) (S' := S) (by rw [ex_if_f (S1 := S) (by rw [ee]; simp [q])]; exact exs_nil),
        exs_nx (σ' := [some (.ref r), some (encL L), some (encL (stStep cs fs F)), some (encL (gams cs fs F)), some (encL (stStep cs fs F)), none, none]) (S' := S) (ex_asg rfl rfl), exs_nil]
  have loop : ∀ (k m : Nat) (F : List Lb) (x y : Option D), k < m → F.length = cs.length → stStep cs fs (fixOf (stStep cs fs) k F) = fixOf (stStep cs fs) k F →
      ∃ σ, whileL (fun σ s => ev (cal P (run P (n + 2))) (.cst (.bl true)) σ s) (fun σ s => exs (cal P (run P (n + 2))) [.asg (.name 3) (.meth (.var 0) "after" [(.var 2)]), .asg (.name 4) (.prim .tuple [(.comp false (.ite (.b2 .eq (.var 5) (.cst (.str "out"))) (.var 5) (.idx (.var 3) (.var 6))) (.tup [6, 5]) .enum [(.var 2)] [])]), .ife (.b2 .eq (.var 4) (.var 2)) [.ret (.b2 .eq (.var 2) (.var 1))] [], .asg (.name 2) (.var 4)] σ s) m [some (.ref r), some (encL L), some (encL F), x, y, none, none] S = some (.rt (.bl (decide (fixOf (stStep cs fs) k F = L))), σ, S) := by
    intro k
    induction k with
    | zero =>
      intro m F x y hm hF hf
      obtain ⟨m, rfl⟩ : ∃ m', m = m' + 1 := ⟨m - 1, by omega⟩
      have hf' : stStep cs fs F = F := hf
      unfold whileL
      simp only [ev, Option.bind_some, step F x y hF, hf', if_true]
      exact ⟨_, rfl⟩
    | succ k ih =>
      intro m F x y hm hF hf
      obtain ⟨m, rfl⟩ : ∃ m', m = m' + 1 := ⟨m - 1, by omega⟩
      unfold whileL
      simp only [ev, Option.bind_some, step F x y hF]
      by_cases q : stStep cs fs F = F
      · simp only [q, if_true, fixOf]
        exact ⟨_, rfl⟩
      · have hf' : stStep cs fs (fixOf (stStep cs fs) k (stStep cs fs F)) = fixOf (stStep cs fs) k (stStep cs fs F) := by
          have := hf
          rw [fixOf, if_neg q] at this
          exact this
        simp only [q, if_false, Option.bind_some, fixOf]
        exact ih m (stStep cs fs F) _ _ (by omega) (by rw [stStep_length]; exact hF) hf'
  have key : ∃ σ, (exs (cal P (run P (n + 2))) b14.body ([.ref r, encL L].map some ++ List.replicate b14.nloc none) S) = some (.rt (.bl (!decide (Lb.opn ∈ L) && decide (gams cs fs L = L) && decide (fixOf (stStep cs fs) k (stStart L) = L))), σ, S) := by
    show ∃ σ, exs (cal P (run P (n + 2))) [_, _, _] [some (.ref r), some (encL L), none, none, none, none, none] S = _
    have ea := ev_after B n (σ := [some (.ref r), some (encL L), none, none, none, none, none]) (e := .var 0) (e' := .var 1) (by omega) hk (by omega) hS rfl rfl
    have em : ev (cal P (run P (n + 2))) (.b2 .inn (.cst (.str "open")) (.var 1)) [some (.ref r), some (encL L), none, none, none, none, none] S = some (.bl (decide (Lb.opn ∈ L)), S) := by
      unfold encL
      simp only [ev, getV, List.getElem?_cons_zero, List.getElem?_cons_succ, Option.join_some, Option.map_some, Option.bind_some, de_str, de_tup, bin_inn_tup, memD_open]
    have en : ev (cal P (run P (n + 2))) (.b2 .ne (.meth (.var 0) "after" [(.var 1)]) (.var 1)) [some (.ref r), some (encL L), none, none, none, none, none] S = some (.bl (!decide (gams cs fs L = L)), S) := ev_ne (M := L) ea rfl
    by_cases q1 : Lb.opn ∈ L
    · refine ⟨[some (.ref r), some (encL L), none, none, none, none, none], ?_⟩
      have ei : ex (cal P (run P (n + 2))) (.ife (.or (.b2 .inn (.cst (.str "open")) (.var 1)) (.b2 .ne (.meth (.var 0) "after" [(.var 1)]) (.var 1))) [.ret (.cst (.bl false))] []) [some (.ref r), some (encL L), none, none, none, none, none] S = some (.rt (.bl false), [some (.ref r), some (encL L), none, none, none, none, none], S) := by
        rw [ex_if_t (S1 := S) (by rw [ev, em]; simp [q1])]
        exact exs_rt (ex_ret rfl)
      rw [exs_rt ei]
      simp [q1]
    · by_cases q2 : gams cs fs L = L
      · have es : ev (cal P (run P (n + 2))) (.prim .tuple [(.comp false (.ite (.b2 .eq (.var 5) (.cst (.str "out"))) (.cst (.str "out")) (.cst (.str "open"))) (.name 5) .seq [(.var 1)] [])]) [some (.ref r), some (encL L), none, none, none, none, none] S = some (encL (stStart L), S) := by
          refine ev_prim (ds := [.lst ((stStart L).map fun l => .str l.str)]) (S1 := S) (evs_1 ?_) rfl
          rw [ev_comp (ds := [encL L]) (S1 := S) (xs := L.map fun l => .str l.str) (by simp [ev, evs, getV]) rfl, compL_mapc (fun l : Lb => D.str l.str) (fun l => D.str (if l = .out then Lb.out else .opn).str) rfl]
          · simp only [Option.bind_some, mk_f, List.length_map]
            rw [if_pos (by unfold LIM; omega)]
            unfold stStart
            rw [List.map_map]
            rfl
          · intro l _
            cases l <;> (simp (decide := true) [exs, ex, ev, evs, evo, evc, bindT, bindL, getV, seqOf, de_str, de_int, de_bl, de_non, de_tup, de_lst, de_dic, de_inp, eqD_str, eqD_int, eqD_bl, bin_eq, bin_ne, bin_inn_tup, bin_inn_lst, bin_notin_tup, bin_notin_lst, bin_inn_str, bin_notin_str, bin_add_int, bin_sub_int, bin_add_tup, bin_add_lst, bin_lt_int, bin_gt_int, bin_le_int, bin_ge_int, bin_band, bin_bor, bin_shl, bin_shr, bin_mod, bin_fdiv, bin_mul_int, bin_mul_lst, bin_mul_tup, un_not, un_inv, idx_tup, idx_lst, idx_str, idx_dic, slc_tup, slc_lst, slc_inp, prim_len_tup, prim_len_lst, prim_len_str, prim_int_int, prim_int_bl, prim_tuple_lst, prim_tuple_tup, prim_list_lst, prim_list_tup, prim_all, prim_any, prim_sum, prim_max2, prim_sorted, prim_lr, prim_abs, atI_0, atI_1, atI_2, cut_from1, items_tup, items_lst, items_rng1, items_enum_tup, items_zip_tup, mk_f, mk_t, LIM, cal_fn, cal_W, cal_meth, cal_init, guard_nil, guard_int, guard_tup, guard_lst, Lb.str])
        obtain ⟨σ, hl⟩ := loop k 1000 (stStart L) none none (by omega) (by unfold stStart; rw [List.length_map]; exact hL) hfix
        refine ⟨σ, ?_⟩
        rw [exs_nx (σ' := [some (.ref r), some (encL L), none, none, none, none, none]) (S' := S) (by
            rw [ex_if_f (S1 := S) (by rw [ev, em]; simp [q1, en, q2])]
            exact exs_nil),
          exs_nx (σ' := [some (.ref r), some (encL L), some (encL (stStart L)), none, none, none, none]) (S' := S) (ex_asg es rfl),
          exs_rt (d := .bl (decide (fixOf (stStep cs fs) k (stStart L) = L))) (σ' := σ) (S' := S) (by rw [ex, cal_W, B.W]; exact hl)]
        simp [q1, q2]
      · refine ⟨[some (.ref r), some (encL L), none, none, none, none, none], ?_⟩
        have ei : ex (cal P (run P (n + 2))) (.ife (.or (.b2 .inn (.cst (.str "open")) (.var 1)) (.b2 .ne (.meth (.var 0) "after" [(.var 1)]) (.var 1))) [.ret (.cst (.bl false))] []) [some (.ref r), some (encL L), none, none, none, none, none] S = some (.rt (.bl false), [some (.ref r), some (encL L), none, none, none, none, none], S) := by
          rw [ex_if_t (S1 := S) (by rw [ev, em]; simp [q1, en, q2])]
          exact exs_rt (ex_ret rfl)
        rw [exs_rt ei]
        simp [q1, q2]
  obtain ⟨σ, key⟩ := key
  rw [key, Option.bind_some]
  exact leaveF_py0 rfl
end
end Fw
end
section
set_option Elab.async false
set_option linter.all false
set_option autoImplicit false
set_option maxRecDepth 10000
set_option maxHeartbeats 2000000
/-! Pl10: the labels of each way. -/
namespace Fw
open PySem
theorem evc_1 {C : Cal} {c : E} {σ : Ev} {S : Store} {b : Bool} (h : ev C c σ S = some (.bl b, S)) : evc C [c] σ S = some (b, S) := by
  rw [evc, h]
  cases b <;> simp [evc]
theorem ev_filterL {C : Cal} {σ : Ev} {S : Store} (i : Nat) {its conds : List E} {rows : List (List Lb)} (p : List Lb → Bool) (h1 : evs C its σ S = some ([.lst (rows.map encL)], S)) (hi : i < σ.length) (hl : rows.length ≤ 1000) (hx : ∀ L ∈ rows, evc C conds (σ.set i (some (encL L))) S = some (p L, S)) :
    ev C (.comp false (.var i) (.name i) .seq its conds) σ S = some (.lst ((rows.filter p).map encL), S) := by
  rw [ev_comp (xs := rows.map encL) h1 rfl, compL_filterc encL p encL rfl]
  · simp only [Option.bind_some, mk_f, List.length_map]
    rw [if_pos (Nat.le_trans (List.length_filter_le _ _) (Nat.le_trans hl (by unfold LIM; omega)))]
  · intro L hL
    have e : getV (σ.set i (some (encL L))) i = some (encL L) := by unfold getV; rw [List.getElem?_set_self hi]; rfl
    simp only [bindT, Option.bind_some, hx L hL]
    cases p L with
    | false => simp
    | true => simp only [if_true, ev, e, Option.map_some, Option.bind_some]
inductive Way where
  | adm | com | gro | pre | mod | sta
  deriving DecidableEq
def Way.str : Way → Str
  | .adm => "admissible"
  | .com => "complete"
  | .gro => "grounded"
  | .pre => "preferred"
  | .mod => "model"
  | .sta => "stable"
section
variable (cs : List Str) (fs : List Fm)
def goodL : List (List Lb) := (allL cs.length).filter fun L => agB L (gams cs fs L)
def doneL : List (List Lb) := (goodL cs fs).filter fun L => decide (gams cs fs L = L)
def groL : List Lb := fixOf (gams cs fs) cs.length (List.replicate cs.length .opn)
def staB (L : List Lb) : Bool := !decide (Lb.opn ∈ L) && decide (gams cs fs L = L) && decide (fixOf (stStep cs fs) cs.length (stStart L) = L)
def wayL : Way → List (List Lb)
  | .adm => goodL cs fs
  | .com => doneL cs fs
  | .gro => [groL cs fs]
  | .pre => (goodL cs fs).filter fun L => !((goodL cs fs).map fun M => decide (L ≠ M) && agB L M).any id
  | .mod => (doneL cs fs).filter fun L => !decide (Lb.opn ∈ L)
  | .sta => (doneL cs fs).filter fun L => staB cs fs L
/-- the loops come to an end -/
structure Ends : Prop where
  gro : gams cs fs (groL cs fs) = groL cs fs
  sta : ∀ L ∈ doneL cs fs, stStep cs fs (fixOf (stStep cs fs) cs.length (stStart L)) = fixOf (stStep cs fs) cs.length (stStart L)
end
def b16 (o : Nat → Nat) : FD := ⟨2, 6, [
  .ife (.b2 .eq (.var 1) (.cst (.str "grounded"))) [.ret (.lst false [(.meth (.var 0) "least" [])])] [],
  .asg (.name 2) (.call (o 2) [(.fld (.var 0) "many")]),
  .asg (.name 3) (.comp false (.var 5) (.name 5) .seq [(.var 2)] [(.call (o 15) [(.var 5), (.meth (.var 0) "after" [(.var 5)])])]),
  .ife (.b2 .eq (.var 1) (.cst (.str "admissible"))) [.ret (.var 3)] [],
  .ife (.b2 .eq (.var 1) (.cst (.str "preferred"))) [.ret (.comp false (.var 6) (.name 6) .seq [(.var 3)] [(.u1 .not (.prim .any [(.comp false (.and (.b2 .ne (.var 6) (.var 7)) (.call (o 15) [(.var 6), (.var 7)])) (.name 7) .seq [(.var 3)] [])]))])] [],
  .asg (.name 4) (.comp false (.var 5) (.name 5) .seq [(.var 3)] [(.b2 .eq (.meth (.var 0) "after" [(.var 5)]) (.var 5))]),
  .ife (.b2 .eq (.var 1) (.cst (.str "complete"))) [.ret (.var 4)] [],
  .ife (.b2 .eq (.var 1) (.cst (.str "model"))) [.ret (.comp false (.var 5) (.name 5) .seq [(.var 4)] [(.b2 .notin (.cst (.str "open")) (.var 5))])] [],
  .ret (.comp false (.var 5) (.name 5) .seq [(.var 4)] [(.meth (.var 0) "is_stable" [(.var 5)])])]⟩
section
variable {P : Prog} {o : Nat → Nat} {cc : Nat}
theorem goodL_length {cs : List Str} {fs : List Fm} (h : cs.length ≤ 6) : (goodL cs fs).length ≤ 1000 := by
  unfold goodL
  refine Nat.le_trans (List.length_filter_le _ _) ?_
  rw [allL_length]
  exact Nat.le_trans (Nat.pow_le_pow_right (by omega) h) (by decide)
theorem doneL_length {cs : List Str} {fs : List Fm} (h : cs.length ≤ 6) : (doneL cs fs).length ≤ 1000 := Nat.le_trans (List.length_filter_le _ _) (goodL_length h)
theorem goodL_mem {cs : List Str} {fs : List Fm} {L : List Lb} (h : L ∈ goodL cs fs) : L.length = cs.length ∧ agB L (gams cs fs L) = true := by
  unfold goodL at h
  rw [List.mem_filter] at h
  exact ⟨allL_mem.mp h.1, h.2⟩
theorem doneL_mem {cs : List Str} {fs : List Fm} {L : List Lb} (h : L ∈ doneL cs fs) : L.length = cs.length ∧ gams cs fs L = L := by
  unfold doneL at h
  rw [List.mem_filter] at h
  exact ⟨(goodL_mem h.1).1, by simpa using h.2⟩
theorem known_spec (B : Base P o cc) (h16 : P.funs[o 16]? = some (b16 o)) (n : Nat) (cs : List Str) (fs : List Fm) (S : Store) (r : Nat) (hk : cs.length ≤ 6) (hfs : fs.length = cs.length) (hS : S[r]? = some (.ins cc (objF cs fs))) (en : Ends cs fs) (w : Way) :
    run P (n + 4) (o 16) [.ref r, .str w.str] S = some (.lst ((wayL cs fs w).map encL), S) := by
  rw [run_eq h16 rfl]
  have C0 : ∀ L : List Lb, L.length = cs.length → L.length ≤ 10 := fun L h => by omega
  have key : ∃ σ, (exs (cal P (run P (n + 3))) (b16 o).body ([.ref r, .str w.str].map some ++ List.replicate (b16 o).nloc none) S) = some (.rt (.lst ((wayL cs fs w).map encL)), σ, S) := by
    show ∃ σ, exs (cal P (run P (n + 3))) [_, _, _, _, _, _, _, _, _] [some (.ref r), some (.str w.str), none, none, none, none, none, none] S = _
    by_cases hg : w = .gro
    · subst hg
      have e0 := least_spec B n cs fs S r (by omega) hfs hS cs.length (by omega) en.gro
      have e1 : ev (cal P (run P (n + 3))) (.lst false [(.meth (.var 0) "least" [])]) [some (.ref r), some (.str Way.gro.str), none, none, none, none, none, none] S = some (.lst ([groL cs fs].map encL), S) := by
        rw [ev, evs_1 (ev_meth (S := S) (r := r) (cl := cc) (f := o 13) (flds := objF cs fs) (ds := []) rfl hS rfl (by rw [cal_meth]; exact B.me) rfl e0)]
        rfl
      refine ⟨[some (.ref r), some (.str Way.gro.str), none, none, none, none, none, none], ?_⟩
      have ei : ex (cal P (run P (n + 3))) (.ife (.b2 .eq (.var 1) (.cst (.str "grounded"))) [.ret (.lst false [(.meth (.var 0) "least" [])])] []) [some (.ref r), some (.str Way.gro.str), none, none, none, none, none, none] S = some (.rt (.lst ([groL cs fs].map encL)), [some (.ref r), some (.str Way.gro.str), none, none, none, none, none, none], S) := by
        rw [ex_if_t (S1 := S) (by (simp (decide := true) [exs, ex, ev, evs, evo, evc, bindT, bindL, getV, seqOf, de_str, de_int, de_bl, de_non, de_tup, de_lst, de_dic, de_inp, eqD_str, eqD_int, eqD_bl, bin_eq, bin_ne, bin_inn_tup, bin_inn_lst, bin_notin_tup, bin_notin_lst, bin_inn_str, bin_notin_str, bin_add_int, bin_sub_int, bin_add_tup, bin_add_lst, bin_lt_int, bin_gt_int, bin_le_int, bin_ge_int, bin_band, bin_bor, bin_shl, bin_shr, bin_mod, bin_fdiv, bin_mul_int, bin_mul_lst, bin_mul_tup, un_not, un_inv, idx_tup, idx_lst, idx_str, idx_dic, slc_tup, slc_lst, slc_inp, prim_len_tup, prim_len_lst, prim_len_str, prim_int_int, prim_int_bl, prim_tuple_lst, prim_tuple_tup, prim_list_lst, prim_list_tup, prim_all, prim_any, prim_sum, prim_max2, prim_sorted, prim_lr, prim_abs, atI_0, atI_1, atI_2, cut_from1, items_tup, items_lst, items_rng1, items_enum_tup, items_zip_tup, mk_f, mk_t, LIM, cal_fn, cal_W, cal_meth, cal_init, guard_nil, guard_int, guard_tup, guard_lst]))]
        exact exs_rt (ex_ret e1)
      rw [exs_rt ei]
      rfl
    · have hng : ¬ (w.str = "grounded") := by cases w <;> first | exact absurd rfl hg | decide
      have eal := labels_spec B.f2 (n + 2) cs.length S (by omega)
      have hm : lookF "many" (objF cs fs) = some (.int (cs.length : Nat)) := rfl
      let rows : D := .lst ((allL cs.length).map encL)
      let good : D := .lst ((goodL cs fs).map encL)
      let done : D := .lst ((doneL cs fs).map encL)
      have p36 : (allL cs.length).length ≤ 1000 := by rw [allL_length]; exact Nat.le_trans (Nat.pow_le_pow_right (by omega) hk) (by decide)
      have s1 : ex (cal P (run P (n + 3))) (.ife (.b2 .eq (.var 1) (.cst (.str "grounded"))) [.ret (.lst false [(.meth (.var 0) "least" [])])] []) [some (.ref r), some (.str w.str), none, none, none, none, none, none] S = some (.nx, [some (.ref r), some (.str w.str), none, none, none, none, none, none], S) := by
        rw [ex_if_f (S1 := S) (by (simp (decide := true) [exs, ex, ev, evs, evo, evc, bindT, bindL, getV, seqOf, de_str, de_int, de_bl, de_non, de_tup, de_lst, de_dic, de_inp, eqD_str, eqD_int, eqD_bl, bin_eq, bin_ne, bin_inn_tup, bin_inn_lst, bin_notin_tup, bin_notin_lst, bin_inn_str, bin_notin_str, bin_add_int, bin_sub_int, bin_add_tup, bin_add_lst, bin_lt_int, bin_gt_int, bin_le_int, bin_ge_int, bin_band, bin_bor, bin_shl, bin_shr, bin_mod, bin_fdiv, bin_mul_int, bin_mul_lst, bin_mul_tup, un_not, un_inv, idx_tup, idx_lst, idx_str, idx_dic, slc_tup, slc_lst, slc_inp, prim_len_tup, prim_len_lst, prim_len_str, prim_int_int, prim_int_bl, prim_tuple_lst, prim_tuple_tup, prim_list_lst, prim_list_tup, prim_all, prim_any, prim_sum, prim_max2, prim_sorted, prim_lr, prim_abs, atI_0, atI_1, atI_2, cut_from1, items_tup, items_lst, items_rng1, items_enum_tup, items_zip_tup, mk_f, mk_t, LIM, cal_fn, cal_W, cal_meth, cal_init, guard_nil, guard_int, guard_tup, guard_lst, hng]))]
        exact exs_nil
      have s2 : ex (cal P (run P (n + 3))) (.asg (.name 2) (.call (o 2) [(.fld (.var 0) "many")])) [some (.ref r), some (.str w.str), none, none, none, none, none, none] S = some (.nx, [some (.ref r), some (.str w.str), some rows, none, none, none, none, none], S) := by (simp (decide := true) [exs, ex, ev, evs, evo, evc, bindT, bindL, getV, seqOf, de_str, de_int, de_bl, de_non, de_tup, de_lst, de_dic, de_inp, eqD_str, eqD_int, eqD_bl, bin_eq, bin_ne, bin_inn_tup, bin_inn_lst, bin_notin_tup, bin_notin_lst, bin_inn_str, bin_notin_str, bin_add_int, bin_sub_int, bin_add_tup, bin_add_lst, bin_lt_int, bin_gt_int, bin_le_int, bin_ge_int, bin_band, bin_bor, bin_shl, bin_shr, bin_mod, bin_fdiv, bin_mul_int, bin_mul_lst, bin_mul_tup, un_not, un_inv, idx_tup, idx_lst, idx_str, idx_dic, slc_tup, slc_lst, slc_inp, prim_len_tup, prim_len_lst, prim_len_str, prim_int_int, prim_int_bl, prim_tuple_lst, prim_tuple_tup, prim_list_lst, prim_list_tup, prim_all, prim_any, prim_sum, prim_max2, prim_sorted, prim_lr, prim_abs, atI_0, atI_1, atI_2, cut_from1, items_tup, items_lst, items_rng1, items_enum_tup, items_zip_tup, mk_f, mk_t, LIM, cal_fn, cal_W, cal_meth, cal_init, guard_nil, guard_int, guard_tup, guard_lst, hS, hm, eal, rows])
      have c3 : ev (cal P (run P (n + 3))) (.comp false (.var 5) (.name 5) .seq [(.var 2)] [(.call (o 15) [(.var 5), (.meth (.var 0) "after" [(.var 5)])])]) [some (.ref r), some (.str w.str), some rows, none, none, none, none, none] S = some (good, S) := by
        refine ev_filterL 5 (rows := allL cs.length) (fun L => agB L (gams cs fs L)) rfl (show 5 < 8 by decide) p36 fun L hL => evc_1 ?_
        have hl := C0 L (allL_mem.mp hL)
        have ea := ev_after B (n + 1) (σ := [some (.ref r), some (.str w.str), some rows, none, none, some (encL L), none, none]) (e := .var 0) (e' := .var 5) (S := S) hl (by omega) (by omega) hS rfl rfl
        have eg := agrees_spec B.f15 (n + 2) L (gams cs fs L) S (by omega)
        refine ev_call (ds := [encL L, encL (gams cs fs L)]) (S1 := S) ?_ eg
        show ((ev _ (.var 5) [some (.ref r), some (.str w.str), some rows, none, none, some (encL L), none, none] S).bind fun r_1 => (evs _ [.meth (.var 0) "after" [(.var 5)]] [some (.ref r), some (.str w.str), some rows, none, none, some (encL L), none, none] r_1.2).bind _) = _
        rw [show ev (cal P (run P (n + 3))) (.var 5) [some (.ref r), some (.str w.str), some rows, none, none, some (encL L), none, none] S = some (encL L, S) from rfl]
        simp only [Option.bind_some]
        rw [evs_1 ea]
        rfl
      have s3 : ex (cal P (run P (n + 3))) (.asg (.name 3) (.comp false (.var 5) (.name 5) .seq [(.var 2)] [(.call (o 15) [(.var 5), (.meth (.var 0) "after" [(.var 5)])])])) [some (.ref r), some (.str w.str), some rows, none, none, none, none, none] S = some (.nx, [some (.ref r), some (.str w.str), some rows, some good, none, none, none, none], S) := ex_asg c3 rfl
      by_cases ha : w = .adm
      · subst ha
        refine ⟨[some (.ref r), some (.str Way.adm.str), some rows, some good, none, none, none, none], ?_⟩
        have s4 : ex (cal P (run P (n + 3))) (.ife (.b2 .eq (.var 1) (.cst (.str "admissible"))) [.ret (.var 3)] []) [some (.ref r), some (.str Way.adm.str), some rows, some good, none, none, none, none] S = some (.rt good, [some (.ref r), some (.str Way.adm.str), some rows, some good, none, none, none, none], S) := by
          rw [ex_if_t (S1 := S) (by (simp (decide := true) [exs, ex, ev, evs, evo, evc, bindT, bindL, getV, seqOf, de_str, de_int, de_bl, de_non, de_tup, de_lst, de_dic, de_inp, eqD_str, eqD_int, eqD_bl, bin_eq, bin_ne, bin_inn_tup, bin_inn_lst, bin_notin_tup, bin_notin_lst, bin_inn_str, bin_notin_str, bin_add_int, bin_sub_int, bin_add_tup, bin_add_lst, bin_lt_int, bin_gt_int, bin_le_int, bin_ge_int, bin_band, bin_bor, bin_shl, bin_shr, bin_mod, bin_fdiv, bin_mul_int, bin_mul_lst, bin_mul_tup, un_not, un_inv, idx_tup, idx_lst, idx_str, idx_dic, slc_tup, slc_lst, slc_inp, prim_len_tup, prim_len_lst, prim_len_str, prim_int_int, prim_int_bl, prim_tuple_lst, prim_tuple_tup, prim_list_lst, prim_list_tup, prim_all, prim_any, prim_sum, prim_max2, prim_sorted, prim_lr, prim_abs, atI_0, atI_1, atI_2, cut_from1, items_tup, items_lst, items_rng1, items_enum_tup, items_zip_tup, mk_f, mk_t, LIM, cal_fn, cal_W, cal_meth, cal_init, guard_nil, guard_int, guard_tup, guard_lst]))]
          exact exs_rt (ex_ret rfl)
        rw [exs_nx s1, exs_nx s2, exs_nx s3, exs_rt s4]
        rfl
      · have hna : ¬ (w.str = "admissible") := by cases w <;> first | exact absurd rfl ha | decide
        have s4 : ex (cal P (run P (n + 3))) (.ife (.b2 .eq (.var 1) (.cst (.str "admissible"))) [.ret (.var 3)] []) [some (.ref r), some (.str w.str), some rows, some good, none, none, none, none] S = some (.nx, [some (.ref r), some (.str w.str), some rows, some good, none, none, none, none], S) := by
          rw [ex_if_f (S1 := S) (by (simp (decide := true) [exs, ex, ev, evs, evo, evc, bindT, bindL, getV, seqOf, de_str, de_int, de_bl, de_non, de_tup, de_lst, de_dic, de_inp, eqD_str, eqD_int, eqD_bl, bin_eq, bin_ne, bin_inn_tup, bin_inn_lst, bin_notin_tup, bin_notin_lst, bin_inn_str, bin_notin_str, bin_add_int, bin_sub_int, bin_add_tup, bin_add_lst, bin_lt_int, bin_gt_int, bin_le_int, bin_ge_int, bin_band, bin_bor, bin_shl, bin_shr, bin_mod, bin_fdiv, bin_mul_int, bin_mul_lst, bin_mul_tup, un_not, un_inv, idx_tup, idx_lst, idx_str, idx_dic, slc_tup, slc_lst, slc_inp, prim_len_tup, prim_len_lst, prim_len_str, prim_int_int, prim_int_bl, prim_tuple_lst, prim_tuple_tup, prim_list_lst, prim_list_tup, prim_all, prim_any, prim_sum, prim_max2, prim_sorted, prim_lr, prim_abs, atI_0, atI_1, atI_2, cut_from1, items_tup, items_lst, items_rng1, items_enum_tup, items_zip_tup, mk_f, mk_t, LIM, cal_fn, cal_W, cal_meth, cal_init, guard_nil, guard_int, guard_tup, guard_lst, hna]))]
          exact exs_nil
        by_cases hp : w = .pre
        · subst hp
          refine ⟨[some (.ref r), some (.str Way.pre.str), some rows, some good, none, none, none, none], ?_⟩
          have c5 : ev (cal P (run P (n + 3))) (.comp false (.var 6) (.name 6) .seq [(.var 3)] [(.u1 .not (.prim .any [(.comp false (.and (.b2 .ne (.var 6) (.var 7)) (.call (o 15) [(.var 6), (.var 7)])) (.name 7) .seq [(.var 3)] [])]))]) [some (.ref r), some (.str Way.pre.str), some rows, some good, none, none, none, none] S = some (.lst ((wayL cs fs .pre).map encL), S) := by
            refine ev_filterL 6 (rows := goodL cs fs) (fun L => !((goodL cs fs).map fun M => decide (L ≠ M) && agB L M).any id) rfl (show 6 < 8 by decide) (goodL_length hk) fun L hL => evc_1 ?_
            have hl := (goodL_mem hL).1
            have ec : ev (cal P (run P (n + 3))) (.comp false (.and (.b2 .ne (.var 6) (.var 7)) (.call (o 15) [(.var 6), (.var 7)])) (.name 7) .seq [(.var 3)] []) [some (.ref r), some (.str Way.pre.str), some rows, some good, none, none, some (encL L), none] S = some (.lst ((goodL cs fs).map fun M => .bl (decide (L ≠ M) && agB L M)), S) := by
              rw [ev_comp (ds := [good]) (S1 := S) (xs := (goodL cs fs).map encL) rfl rfl, compL_mapc encL (fun M => D.bl (decide (L ≠ M) && agB L M)) rfl]
              · simp only [Option.bind_some, mk_f, List.length_map]
                rw [if_pos (Nat.le_trans (goodL_length hk) (by unfold LIM; omega))]
              · intro M hM
                have eg := agrees_spec B.f15 (n + 2) L M S (by omega)
                have ne := ev_ne (C := cal P (run P (n + 3))) (a := .var 6) (b := .var 7) (σ := [some (.ref r), some (.str Way.pre.str), some rows, some good, none, none, some (encL L), some (encL M)]) (S := S) (L := L) (M := M) rfl rfl
                have ecall : ev (cal P (run P (n + 3))) (.call (o 15) [(.var 6), (.var 7)]) [some (.ref r), some (.str Way.pre.str), some rows, some good, none, none, some (encL L), some (encL M)] S = some (.bl (agB L M), S) := ev_call (ds := [encL L, encL M]) (S1 := S) rfl eg
                simp only [bindT, List.set_cons_zero, List.set_cons_succ, Option.bind_some, evc, if_true]
                rw [ev, ne]
                by_cases q : L = M
                · simp [q]
                · simp [q, ecall]
            show ev (cal P (run P (n + 3))) _ [some (.ref r), some (.str Way.pre.str), some rows, some good, none, none, some (encL L), none] S = _
            rw [ev, ev_prim (evs_1 ec) (by show prim .any [.lst _] = _; rw [prim_any, boolsOf_map]; rfl)]
            rfl
          have s5 : ex (cal P (run P (n + 3))) (.ife (.b2 .eq (.var 1) (.cst (.str "preferred"))) [.ret (.comp false (.var 6) (.name 6) .seq [(.var 3)] [(.u1 .not (.prim .any [(.comp false (.and (.b2 .ne (.var 6) (.var 7)) (.call (o 15) [(.var 6), (.var 7)])) (.name 7) .seq [(.var 3)] [])]))])] []) [some (.ref r), some (.str Way.pre.str), some rows, some good, none, none, none, none] S = some (.rt (.lst ((wayL cs fs .pre).map encL)), [some (.ref r), some (.str Way.pre.str), some rows, some good, none, none, none, none], S) := by
            rw [ex_if_t (S1 := S) (by (simp (decide := true) [exs, ex, ev, evs, evo, evc, bindT, bindL, getV, seqOf, de_str, de_int, de_bl, de_non, de_tup, de_lst, de_dic, de_inp, eqD_str, eqD_int, eqD_bl, bin_eq, bin_ne, bin_inn_tup, bin_inn_lst, bin_notin_tup, bin_notin_lst, bin_inn_str, bin_notin_str, bin_add_int, bin_sub_int, bin_add_tup, bin_add_lst, bin_lt_int, bin_gt_int, bin_le_int, bin_ge_int, bin_band, bin_bor, bin_shl, bin_shr, bin_mod, bin_fdiv, bin_mul_int, bin_mul_lst, bin_mul_tup, un_not, un_inv, idx_tup, idx_lst, idx_str, idx_dic, slc_tup, slc_lst, slc_inp, prim_len_tup, prim_len_lst, prim_len_str, prim_int_int, prim_int_bl, prim_tuple_lst, prim_tuple_tup, prim_list_lst, prim_list_tup, prim_all, prim_any, prim_sum, prim_max2, prim_sorted, prim_lr, prim_abs, atI_0, atI_1, atI_2, cut_from1, items_tup, items_lst, items_rng1, items_enum_tup, items_zip_tup, mk_f, mk_t, LIM, cal_fn, cal_W, cal_meth, cal_init, guard_nil, guard_int, guard_tup, guard_lst]))]
            exact exs_rt (ex_ret c5)
          rw [exs_nx s1, exs_nx s2, exs_nx s3, exs_nx s4, exs_rt s5]
        · have hnp : ¬ (w.str = "preferred") := by cases w <;> first | exact absurd rfl hp | decide
          have s5 : ex (cal P (run P (n + 3))) (.ife (.b2 .eq (.var 1) (.cst (.str "preferred"))) [.ret (.comp false (.var 6) (.name 6) .seq [(.var 3)] [(.u1 .not (.prim .any [(.comp false (.and (.b2 .ne (.var 6) (.var 7)) (.call (o 15) [(.var 6), (.var 7)])) (.name 7) .seq [(.var 3)] [])]))])] []) [some (.ref r), some (.str w.str), some rows, some good, none, none, none, none] S = some (.nx, [some (.ref r), some (.str w.str), some rows, some good, none, none, none, none], S) := by
            rw [ex_if_f (S1 := S) (by (simp (decide := true) [exs, ex, ev, evs, evo, evc, bindT, bindL, getV, seqOf, de_str, de_int, de_bl, de_non, de_tup, de_lst, de_dic, de_inp, eqD_str, eqD_int, eqD_bl, bin_eq, bin_ne, bin_inn_tup, bin_inn_lst, bin_notin_tup, bin_notin_lst, bin_inn_str, bin_notin_str, bin_add_int, bin_sub_int, bin_add_tup, bin_add_lst, bin_lt_int, bin_gt_int, bin_le_int, bin_ge_int, bin_band, bin_bor, bin_shl, bin_shr, bin_mod, bin_fdiv, bin_mul_int, bin_mul_lst, bin_mul_tup, un_not, un_inv, idx_tup, idx_lst, idx_str, idx_dic, slc_tup, slc_lst, slc_inp, prim_len_tup, prim_len_lst, prim_len_str, prim_int_int, prim_int_bl, prim_tuple_lst, prim_tuple_tup, prim_list_lst, prim_list_tup, prim_all, prim_any, prim_sum, prim_max2, prim_sorted, prim_lr, prim_abs, atI_0, atI_1, atI_2, cut_from1, items_tup, items_lst, items_rng1, items_enum_tup, items_zip_tup, mk_f, mk_t, LIM, cal_fn, cal_W, cal_meth, cal_init, guard_nil, guard_int, guard_tup, guard_lst, hnp]))]
            exact exs_nil
          have c6 : ev (cal P (run P (n + 3))) (.comp false (.var 5) (.name 5) .seq [(.var 3)] [(.b2 .eq (.meth (.var 0) "after" [(.var 5)]) (.var 5))]) [some (.ref r), some (.str w.str), some rows, some good, none, none, none, none] S = some (done, S) := by
            refine ev_filterL 5 (rows := goodL cs fs) (fun L => decide (gams cs fs L = L)) rfl (show 5 < 8 by decide) (goodL_length hk) fun L hL => evc_1 ?_
            have hl := C0 L (goodL_mem hL).1
            have ea := ev_after B (n + 1) (σ := [some (.ref r), some (.str w.str), some rows, some good, none, some (encL L), none, none]) (e := .var 0) (e' := .var 5) (S := S) hl (by omega) (by omega) hS rfl rfl
            exact ev_eq (M := L) ea rfl
          have s6 : ex (cal P (run P (n + 3))) (.asg (.name 4) (.comp false (.var 5) (.name 5) .seq [(.var 3)] [(.b2 .eq (.meth (.var 0) "after" [(.var 5)]) (.var 5))])) [some (.ref r), some (.str w.str), some rows, some good, none, none, none, none] S = some (.nx, [some (.ref r), some (.str w.str), some rows, some good, some done, none, none, none], S) := ex_asg c6 rfl
          refine ⟨[some (.ref r), some (.str w.str), some rows, some good, some done, none, none, none], ?_⟩
          rw [exs_nx s1, exs_nx s2, exs_nx s3, exs_nx s4, exs_nx s5, exs_nx s6]
          by_cases hc : w = .com
          · subst hc
            have s7 : ex (cal P (run P (n + 3))) (.ife (.b2 .eq (.var 1) (.cst (.str "complete"))) [.ret (.var 4)] []) [some (.ref r), some (.str Way.com.str), some rows, some good, some done, none, none, none] S = some (.rt done, [some (.ref r), some (.str Way.com.str), some rows, some good, some done, none, none, none], S) := by
              rw [ex_if_t (S1 := S) (by (simp (decide := true) [exs, ex, ev, evs, evo, evc, bindT, bindL, getV, seqOf, de_str, de_int, de_bl, de_non, de_tup, de_lst, de_dic, de_inp, eqD_str, eqD_int, eqD_bl, bin_eq, bin_ne, bin_inn_tup, bin_inn_lst, bin_notin_tup, bin_notin_lst, bin_inn_str, bin_notin_str, bin_add_int, bin_sub_int, bin_add_tup, bin_add_lst, bin_lt_int, bin_gt_int, bin_le_int, bin_ge_int, bin_band, bin_bor, bin_shl, bin_shr, bin_mod, bin_fdiv, bin_mul_int, bin_mul_lst, bin_mul_tup, un_not, un_inv, idx_tup, idx_lst, idx_str, idx_dic, slc_tup, slc_lst, slc_inp, prim_len_tup, prim_len_lst, prim_len_str, prim_int_int, prim_int_bl, prim_tuple_lst, prim_tuple_tup, prim_list_lst, prim_list_tup, prim_all, prim_any, prim_sum, prim_max2, prim_sorted, prim_lr, prim_abs, atI_0, atI_1, atI_2, cut_from1, items_tup, items_lst, items_rng1, items_enum_tup, items_zip_tup, mk_f, mk_t, LIM, cal_fn, cal_W, cal_meth, cal_init, guard_nil, guard_int, guard_tup, guard_lst]))]
              exact exs_rt (ex_ret rfl)
            rw [exs_rt s7]
            rfl
          · have hnc : ¬ (w.str = "complete") := by cases w <;> first | exact absurd rfl hc | decide
            have s7 : ex (cal P (run P (n + 3))) (.ife (.b2 .eq (.var 1) (.cst (.str "complete"))) [.ret (.var 4)] []) [some (.ref r), some (.str w.str), some rows, some good, some done, none, none, none] S = some (.nx, [some (.ref r), some (.str w.str), some rows, some good, some done, none, none, none], S) := by
              rw [ex_if_f (S1 := S) (by (simp (decide := true) [exs, ex, ev, evs, evo, evc, bindT, bindL, getV, seqOf, de_str, de_int, de_bl, de_non, de_tup, de_lst, de_dic, de_inp, eqD_str, eqD_int, eqD_bl, bin_eq, bin_ne, bin_inn_tup, bin_inn_lst, bin_notin_tup, bin_notin_lst, bin_inn_str, bin_notin_str, bin_add_int, bin_sub_int, bin_add_tup, bin_add_lst, bin_lt_int, bin_gt_int, bin_le_int, bin_ge_int, bin_band, bin_bor, bin_shl, bin_shr, bin_mod, bin_fdiv, bin_mul_int, bin_mul_lst, bin_mul_tup, un_not, un_inv, idx_tup, idx_lst, idx_str, idx_dic, slc_tup, slc_lst, slc_inp, prim_len_tup, prim_len_lst, prim_len_str, prim_int_int, prim_int_bl, prim_tuple_lst, prim_tuple_tup, prim_list_lst, prim_list_tup, prim_all, prim_any, prim_sum, prim_max2, prim_sorted, prim_lr, prim_abs, atI_0, atI_1, atI_2, cut_from1, items_tup, items_lst, items_rng1, items_enum_tup, items_zip_tup, mk_f, mk_t, LIM, cal_fn, cal_W, cal_meth, cal_init, guard_nil, guard_int, guard_tup, guard_lst, hnc]))]
              exact exs_nil
            rw [exs_nx s7]
            by_cases hmo : w = .mod
            · subst hmo
              have c8 : ev (cal P (run P (n + 3))) (.comp false (.var 5) (.name 5) .seq [(.var 4)] [(.b2 .notin (.cst (.str "open")) (.var 5))]) [some (.ref r), some (.str Way.mod.str), some rows, some good, some done, none, none, none] S = some (.lst ((wayL cs fs .mod).map encL), S) := by
                refine ev_filterL 5 (rows := doneL cs fs) (fun L => !decide (Lb.opn ∈ L)) rfl (show 5 < 8 by decide) (doneL_length hk) fun L hL => evc_1 ?_
                show ev (cal P (run P (n + 3))) _ [some (.ref r), some (.str Way.mod.str), some rows, some good, some done, some (encL L), none, none] S = _
                unfold encL
                simp only [ev, getV, List.getElem?_cons_zero, List.getElem?_cons_succ, Option.join_some, Option.map_some, Option.bind_some, de_str, de_tup, bin_notin_tup, memD_open]
              have s8 : ex (cal P (run P (n + 3))) (.ife (.b2 .eq (.var 1) (.cst (.str "model"))) [.ret (.comp false (.var 5) (.name 5) .seq [(.var 4)] [(.b2 .notin (.cst (.str "open")) (.var 5))])] []) [some (.ref r), some (.str Way.mod.str), some rows, some good, some done, none, none, none] S = some (.rt (.lst ((wayL cs fs .mod).map encL)), [some (.ref r), some (.str Way.mod.str), some rows, some good, some done, none, none, none], S) := by
                rw [ex_if_t (S1 := S) (by (simp (decide := true) [exs, ex, ev, evs, evo, evc, bindT, bindL, getV, seqOf, de_str, de_int, de_bl, de_non, de_tup, de_lst, de_dic, de_inp, eqD_str, eqD_int, eqD_bl, bin_eq, bin_ne, bin_inn_tup, bin_inn_lst, bin_notin_tup, bin_notin_lst, bin_inn_str, bin_notin_str, bin_add_int, bin_sub_int, bin_add_tup, bin_add_lst, bin_lt_int, bin_gt_int, bin_le_int, bin_ge_int, bin_band, bin_bor, bin_shl, bin_shr, bin_mod, bin_fdiv, bin_mul_int, bin_mul_lst, bin_mul_tup, un_not, un_inv, idx_tup, idx_lst, idx_str, idx_dic, slc_tup, slc_lst, slc_inp, prim_len_tup, prim_len_lst, prim_len_str, prim_int_int, prim_int_bl, prim_tuple_lst, prim_tuple_tup, prim_list_lst, prim_list_tup, prim_all, prim_any, prim_sum, prim_max2, prim_sorted, prim_lr, prim_abs, atI_0, atI_1, atI_2, cut_from1, items_tup, items_lst, items_rng1, items_enum_tup, items_zip_tup, mk_f, mk_t, LIM, cal_fn, cal_W, cal_meth, cal_init, guard_nil, guard_int, guard_tup, guard_lst]))]
                exact exs_rt (ex_ret c8)
              rw [exs_rt s8]
            · have hnm : ¬ (w.str = "model") := by cases w <;> first | exact absurd rfl hmo | decide
              have hw : w = .sta := by cases w <;> first | rfl | (exact absurd rfl ‹_›)
              subst hw
              have s8 : ex (cal P (run P (n + 3))) (.ife (.b2 .eq (.var 1) (.cst (.str "model"))) [.ret (.comp false (.var 5) (.name 5) .seq [(.var 4)] [(.b2 .notin (.cst (.str "open")) (.var 5))])] []) [some (.ref r), some (.str Way.sta.str), some rows, some good, some done, none, none, none] S = some (.nx, [some (.ref r), some (.str Way.sta.str), some rows, some good, some done, none, none, none], S) := by
                rw [ex_if_f (S1 := S) (by (simp (decide := true) [exs, ex, ev, evs, evo, evc, bindT, bindL, getV, seqOf, de_str, de_int, de_bl, de_non, de_tup, de_lst, de_dic, de_inp, eqD_str, eqD_int, eqD_bl, bin_eq, bin_ne, bin_inn_tup, bin_inn_lst, bin_notin_tup, bin_notin_lst, bin_inn_str, bin_notin_str, bin_add_int, bin_sub_int, bin_add_tup, bin_add_lst, bin_lt_int, bin_gt_int, bin_le_int, bin_ge_int, bin_band, bin_bor, bin_shl, bin_shr, bin_mod, bin_fdiv, bin_mul_int, bin_mul_lst, bin_mul_tup, un_not, un_inv, idx_tup, idx_lst, idx_str, idx_dic, slc_tup, slc_lst, slc_inp, prim_len_tup, prim_len_lst, prim_len_str, prim_int_int, prim_int_bl, prim_tuple_lst, prim_tuple_tup, prim_list_lst, prim_list_tup, prim_all, prim_any, prim_sum, prim_max2, prim_sorted, prim_lr, prim_abs, atI_0, atI_1, atI_2, cut_from1, items_tup, items_lst, items_rng1, items_enum_tup, items_zip_tup, mk_f, mk_t, LIM, cal_fn, cal_W, cal_meth, cal_init, guard_nil, guard_int, guard_tup, guard_lst]))]
                exact exs_nil
              have c9 : ev (cal P (run P (n + 3))) (.comp false (.var 5) (.name 5) .seq [(.var 4)] [(.meth (.var 0) "is_stable" [(.var 5)])]) [some (.ref r), some (.str Way.sta.str), some rows, some good, some done, none, none, none] S = some (.lst ((wayL cs fs .sta).map encL), S) := by
                refine ev_filterL 5 (rows := doneL cs fs) (fun L => staB cs fs L) rfl (show 5 < 8 by decide) (doneL_length hk) fun L hL => evc_1 ?_
                have es := stable_spec B n cs fs L S r (by omega) hfs (doneL_mem hL).1 hS cs.length (by omega) (en.sta L hL)
                exact ev_meth (S := S) (r := r) (cl := cc) (f := o 14) (flds := objF cs fs) (ds := [encL L]) rfl hS rfl (by rw [cal_meth]; exact B.ms) rfl es
              rw [exs_nx s8, exs_rt (ex_ret c9)]
  obtain ⟨σ, key⟩ := key
  rw [key, Option.bind_some]
  refine leaveF_py0 ?_
  rw [D.isPy]
  exact isPys_of fun x hx => by obtain ⟨L, _, rfl⟩ := List.mem_map.mp hx; exact encL_py L
end
end Fw
end
section
set_option Elab.async false
set_option linter.all false
set_option autoImplicit false
set_option maxRecDepth 10000
set_option maxHeartbeats 2000000
/-! Pl11: the object is made; condition_labels, next_labels. -/
namespace Fw
open PySem
def b9 : FD := ⟨2, 4, [
  .setF (.var 0) "order" (.idx (.var 1) (.cst (.int 0))),
  .setF (.var 0) "many" (.prim .len [(.idx (.var 1) (.cst (.int 0)))]),
  .setF (.var 0) "choices" (.prim .listRange [(.cst (.int 0)), (.b2 .shl (.cst (.int 1)) (.fld (.var 0) "many"))]),
  .setF (.var 0) "places" (.dcomp false (.var 3) (.var 2) (.tup [2, 3]) .enum [(.idx (.var 1) (.cst (.int 0)))] []),
  .setF (.var 0) "truths" (.comp false (.comp false (.meth (.var 0) "holds" [(.var 4), (.var 5)]) (.name 5) .seq [(.fld (.var 0) "choices")] []) (.name 4) .seq [(.idx (.var 1) (.cst (.int 1)))] [])]⟩
theorem ex_setF {C : Cal} {ob e : E} {m : Str} {σ : Ev} {S : Store} {r cl : Nat} {flds : List (Str × D)} {d : D} (h1 : ev C e σ S = some (d, S)) (h2 : ev C ob σ S = some (.ref r, S)) (hS : S[r]? = some (.ins cl flds)) (hl : flds.length < 1000) : ex C (.setF ob m e) σ S = some (.nx, σ, S.set r (.ins cl (putF m d flds))) := by
  rw [ex, h1]
  simp only [Option.bind_some, h2, hS, hl, if_true]
theorem putD_new {k v : D} {kvs : List (D × D)} (h : ∀ p ∈ kvs, keyD p.1 ≠ keyD k) : putD k v kvs = kvs ++ [(k, v)] := by
  unfold putD
  have : (kvs.any fun p => decide (keyD p.1 = keyD k)) = false := by
    rw [List.any_eq_false]
    intro p hp
    simp [h p hp]
  rw [this]
  rfl
theorem placesL_app : ∀ (xs ys : List Str) (k : Nat), placesL k (xs ++ ys) = placesL k xs ++ placesL (k + xs.length) ys
  | [], ys, k => by simp [placesL]
  | x :: xs, ys, k => by
    rw [List.cons_append, placesL, placesL, placesL_app xs ys (k + 1), List.cons_append]
    congr 3
    rw [List.length_cons]
    omega
theorem placesL_keys {x : Str} : ∀ {xs : List Str} {k : Nat}, x ∉ xs → ∀ p ∈ placesL k xs, keyD p.1 ≠ keyD (.str x)
  | [], k, _, p, hp => by cases hp
  | y :: ys, k, h, p, hp => by
    unfold placesL at hp
    rcases List.mem_cons.mp hp with e | hp
    · subst e
      have : y ≠ x := fun e => h (by rw [e]; exact List.mem_cons_self)
      simp [keyD, this]
    · exact placesL_keys (fun m => h (List.mem_cons_of_mem _ m)) p hp
/-- places of the claims -/
theorem places_comp {g : Store → Bool} {f : D → Store → Option (Option (D × D) × Store)} {S : Store} (hg : g S = true) : ∀ (ys xs : List Str) (k : Nat), k = xs.length → (xs ++ ys).Nodup → (∀ (y : Str) (i : Nat), f (D.tup [.int (i : Nat), .str y]) S = some (some (.str y, .int (i : Nat)), S)) →
    compD g f ((ys.zipIdx k).map fun p => D.tup [.int (p.2 : Nat), .str p.1]) (placesL 0 xs) S = some (placesL 0 (xs ++ ys), S)
  | [], xs, k, _, _, _ => by simp [compD]
  | y :: ys, xs, k, hk, hn, hf => by
    subst hk
    rw [List.zipIdx_cons, List.map_cons]
    unfold compD
    rw [hf y xs.length]
    simp only [Option.bind_some, hg, if_true]
    have hy : y ∉ xs := by
      rw [List.nodup_append] at hn
      exact fun m => hn.2.2 y m y List.mem_cons_self rfl
    rw [putD_new (placesL_keys hy)]
    have e : placesL 0 xs ++ [(D.str y, D.int (xs.length : Nat))] = placesL 0 (xs ++ [y]) := by
      rw [placesL_app]; simp [placesL]
    rw [e, places_comp hg ys (xs ++ [y]) (xs.length + 1) (by simp) (by rw [List.append_assoc]; exact hn) hf, List.append_assoc]
    rfl
theorem okRk_places : ∀ (xs : List Str) (k b : Nat), D.okRk b (placesL k xs) = true
  | [], _, _ => rfl
  | x :: xs, k, b => by rw [placesL, D.okRk, okRk_places xs (k + 1) b]; rfl
theorem truths_py (cs : List Str) (fs : List Fm) : (truthsD cs fs).isPy = true := by
  unfold truthsD
  rw [D.isPy]
  refine isPys_of fun x hx => ?_
  obtain ⟨f, _, rfl⟩ := List.mem_map.mp hx
  rw [D.isPy]
  exact isPys_of fun y hy => by obtain ⟨c, _, rfl⟩ := List.mem_map.mp hy; rfl
theorem rng_py (a b : Int) : D.isPys (rng a b) = true := isPys_of fun x hx => by unfold rng at hx; obtain ⟨c, _, rfl⟩ := List.mem_map.mp hx; rfl
theorem objF_ok (cs : List Str) (fs : List Fm) (b cl : Nat) : Cell.okR b (.ins cl (objF cs fs)) = true := by
  show okF b (objF cs fs) = true
  unfold objF
  simp only [okF, D.okR, okRk_places, Bool.and_true, Bool.true_and, choicesD]
  rw [okR_py.2 _ _ (isPys_of fun x hx => by obtain ⟨s, _, rfl⟩ := List.mem_map.mp hx; rfl), okR_py.2 _ _ (rng_py _ _), okR_py.1 _ _ (truths_py cs fs)]
  rfl
theorem keepOk_last (b : Nat) (c c' : Cell) (h : Cell.okR b c' = true) : ∀ S : Store, keepOk b (S ++ [c]) (S ++ [c']) = true
  | [] => by show ((Cell.same c c' || Cell.okR b c') && keepOk b [] []) = true; rw [h]; simp [keepOk]
  | a :: S => by
    show ((Cell.same a a || Cell.okR b a) && keepOk b (S ++ [c]) (S ++ [c'])) = true
    rw [Cell.same_refl, keepOk_last b c c' h S]
    rfl
theorem bin_shl1 {k : Nat} (h : k ≤ 6) : bin .shl (.int 1) (.int (k : Nat)) = some (.int ((2 ^ k : Nat) : Int)) := by
  match k, h with
  | 0, _ => rfl
  | 1, _ => rfl
  | 2, _ => rfl
  | 3, _ => rfl
  | 4, _ => rfl
  | 5, _ => rfl
  | 6, _ => rfl
theorem evs_2 {C : Cal} {e f : E} {σ : Ev} {S S1 S2 : Store} {d d2 : D} (h : ev C e σ S = some (d, S1)) (h2 : ev C f σ S1 = some (d2, S2)) : evs C [e, f] σ S = some ([d, d2], S2) := by
  cases e with
  | star e => simp [ev] at h
  | _ =>
    rw [evs]
    · rw [h]; simp only [Option.bind_some, evs_1 h2, Option.map_some]
    · intro e h; cases h
section
variable {P : Prog} {o : Nat → Nat} {cc : Nat}
theorem init_spec (B : Base P o cc) (h9 : P.funs[o 9]? = some b9) (n : Nat) (cs : List Str) (fs : List Fm) (S : Store) (ok : BookOk cs fs) : run P (n + 13) (o 9) [.ref S.length, bookD cs fs] (S ++ [.ins cc []]) = some (.non, S ++ [.ins cc (objF cs fs)]) := by
  rw [run_eq h9 rfl]
  have nd : cs.Nodup := by
    refine ok.srt.imp ?_
    intro a b h e
    subst e
    unfold sLt at h
    rw [PyProof.Rows.itemOrd.irrefl] at h
    cases h
  have k6 := ok.n6
  have p6 : 2 ^ cs.length ≤ 64 := Nat.le_trans (Nat.pow_le_pow_right (by omega) k6) (by decide)
  let σ : Ev := [some (.ref S.length), some (bookD cs fs), none, none, none, none]
  let C : Cal := cal P (run P (n + 12))
  let f1 : List (Str × D) := [("order", .tup (cs.map .str))]
  let f2 : List (Str × D) := [("order", .tup (cs.map .str)), ("many", .int (cs.length : Nat))]
  let f3 : List (Str × D) := [("order", .tup (cs.map .str)), ("many", .int (cs.length : Nat)), ("choices", choicesD cs.length)]
  let f4 : List (Str × D) := [("order", .tup (cs.map .str)), ("many", .int (cs.length : Nat)), ("choices", choicesD cs.length), ("places", .dic (placesL 0 cs))]
  have st : ∀ (fl : List (Str × D)) (m : Str) (d : D) (fl' : List (Str × D)), putF m d fl = fl' → (S ++ [Cell.ins cc fl]).set S.length (.ins cc (putF m d fl)) = S ++ [.ins cc fl'] := fun fl m d fl' h => by rw [app_set, h]
  have e0 : ∀ S', ev C (.idx (.var 1) (.cst (.int 0))) σ S' = some (.tup (cs.map .str), S') := fun S' => by simp only [σ, bookD]; (simp (decide := true) [exs, ex, ev, evs, evo, evc, bindT, bindL, getV, seqOf, de_str, de_int, de_bl, de_non, de_tup, de_lst, de_dic, de_inp, eqD_str, eqD_int, eqD_bl, bin_eq, bin_ne, bin_inn_tup, bin_inn_lst, bin_notin_tup, bin_notin_lst, bin_inn_str, bin_notin_str, bin_add_int, bin_sub_int, bin_add_tup, bin_add_lst, bin_lt_int, bin_gt_int, bin_le_int, bin_ge_int, bin_band, bin_bor, bin_shl, bin_shr, bin_mod, bin_fdiv, bin_mul_int, bin_mul_lst, bin_mul_tup, un_not, un_inv, idx_tup, idx_lst, idx_str, idx_dic, slc_tup, slc_lst, slc_inp, prim_len_tup, prim_len_lst, prim_len_str, prim_int_int, prim_int_bl, prim_tuple_lst, prim_tuple_tup, prim_list_lst, prim_list_tup, prim_all, prim_any, prim_sum, prim_max2, prim_sorted, prim_lr, prim_abs, atI_0, atI_1, atI_2, cut_from1, items_tup, items_lst, items_rng1, items_enum_tup, items_zip_tup, mk_f, mk_t, LIM, cal_fn, cal_W, cal_meth, cal_init, guard_nil, guard_int, guard_tup, guard_lst])
  have e1 : ∀ S', ev C (.idx (.var 1) (.cst (.int 1))) σ S' = some (.tup (Fm.encs fs), S') := fun S' => by simp only [σ, bookD]; (simp (decide := true) [exs, ex, ev, evs, evo, evc, bindT, bindL, getV, seqOf, de_str, de_int, de_bl, de_non, de_tup, de_lst, de_dic, de_inp, eqD_str, eqD_int, eqD_bl, bin_eq, bin_ne, bin_inn_tup, bin_inn_lst, bin_notin_tup, bin_notin_lst, bin_inn_str, bin_notin_str, bin_add_int, bin_sub_int, bin_add_tup, bin_add_lst, bin_lt_int, bin_gt_int, bin_le_int, bin_ge_int, bin_band, bin_bor, bin_shl, bin_shr, bin_mod, bin_fdiv, bin_mul_int, bin_mul_lst, bin_mul_tup, un_not, un_inv, idx_tup, idx_lst, idx_str, idx_dic, slc_tup, slc_lst, slc_inp, prim_len_tup, prim_len_lst, prim_len_str, prim_int_int, prim_int_bl, prim_tuple_lst, prim_tuple_tup, prim_list_lst, prim_list_tup, prim_all, prim_any, prim_sum, prim_max2, prim_sorted, prim_lr, prim_abs, atI_0, atI_1, atI_2, cut_from1, items_tup, items_lst, items_rng1, items_enum_tup, items_zip_tup, mk_f, mk_t, LIM, cal_fn, cal_W, cal_meth, cal_init, guard_nil, guard_int, guard_tup, guard_lst])
  have s1 : ex C (.setF (.var 0) "order" (.idx (.var 1) (.cst (.int 0)))) σ (S ++ [.ins cc []]) = some (.nx, σ, S ++ [.ins cc f1]) := by
    rw [ex_setF (e0 _) rfl (app_get S _) (by decide), st [] _ _ f1 rfl]
  have s2 : ex C (.setF (.var 0) "many" (.prim .len [(.idx (.var 1) (.cst (.int 0)))])) σ (S ++ [.ins cc f1]) = some (.nx, σ, S ++ [.ins cc f2]) := by
    have em : ev C (.prim .len [(.idx (.var 1) (.cst (.int 0)))]) σ (S ++ [.ins cc f1]) = some (.int (cs.length : Nat), S ++ [.ins cc f1]) := ev_prim (evs_1 (e0 _)) (by simp [de_tup, prim_len_tup])
    rw [ex_setF em rfl (app_get S _) (show 1 < 1000 by decide), st f1 _ _ f2 (by simp (decide := true) [f1, f2, putF])]
  have ok3 : okRng 0 ((2 ^ cs.length : Nat) : Int) = true := by
    have hx : ∀ x : Nat, x ≤ 64 → okRng 0 (x : Int) = true := fun x h => okRng_of (by omega) (by omega) (by omega) (by omega)
    exact hx _ p6
  have s3 : ex C (.setF (.var 0) "choices" (.prim .listRange [(.cst (.int 0)), (.b2 .shl (.cst (.int 1)) (.fld (.var 0) "many"))])) σ (S ++ [.ins cc f2]) = some (.nx, σ, S ++ [.ins cc f3]) := by
    have hm : lookF "many" f2 = some (.int (cs.length : Nat)) := by simp (decide := true) [f2, lookF]
    have ec : ev C (.prim .listRange [(.cst (.int 0)), (.b2 .shl (.cst (.int 1)) (.fld (.var 0) "many"))]) σ (S ++ [.ins cc f2]) = some (choicesD cs.length, S ++ [.ins cc f2]) := by
      have hfl : ev C (.fld (.var 0) "many") σ (S ++ [.ins cc f2]) = some (.int (cs.length : Nat), S ++ [.ins cc f2]) := by simp only [σ]; (simp (decide := true) [exs, ex, ev, evs, evo, evc, bindT, bindL, getV, seqOf, de_str, de_int, de_bl, de_non, de_tup, de_lst, de_dic, de_inp, eqD_str, eqD_int, eqD_bl, bin_eq, bin_ne, bin_inn_tup, bin_inn_lst, bin_notin_tup, bin_notin_lst, bin_inn_str, bin_notin_str, bin_add_int, bin_sub_int, bin_add_tup, bin_add_lst, bin_lt_int, bin_gt_int, bin_le_int, bin_ge_int, bin_band, bin_bor, bin_shl, bin_shr, bin_mod, bin_fdiv, bin_mul_int, bin_mul_lst, bin_mul_tup, un_not, un_inv, idx_tup, idx_lst, idx_str, idx_dic, slc_tup, slc_lst, slc_inp, prim_len_tup, prim_len_lst, prim_len_str, prim_int_int, prim_int_bl, prim_tuple_lst, prim_tuple_tup, prim_list_lst, prim_list_tup, prim_all, prim_any, prim_sum, prim_max2, prim_sorted, prim_lr, prim_abs, atI_0, atI_1, atI_2, cut_from1, items_tup, items_lst, items_rng1, items_enum_tup, items_zip_tup, mk_f, mk_t, LIM, cal_fn, cal_W, cal_meth, cal_init, guard_nil, guard_int, guard_tup, guard_lst, app_get, hm])
      have hsh : ev C (.b2 .shl (.cst (.int 1)) (.fld (.var 0) "many")) σ (S ++ [.ins cc f2]) = some (.int ((2 ^ cs.length : Nat) : Int), S ++ [.ins cc f2]) := by
        rw [ev, ev]
        simp only [Option.bind_some, hfl, deref, bin_shl1 k6]
        rfl
      have hes : evs C [(.cst (.int 0)), (.b2 .shl (.cst (.int 1)) (.fld (.var 0) "many"))] σ (S ++ [.ins cc f2]) = some ([.int 0, .int ((2 ^ cs.length : Nat) : Int)], S ++ [.ins cc f2]) := evs_2 (by rw [ev]) hsh
      exact ev_prim hes (by simp only [List.map, de_int, prim_lr, if_pos ok3, choicesD])
    rw [ex_setF ec rfl (app_get S _) (show 2 < 1000 by decide), st f2 _ _ f3 (by simp (decide := true) [f2, f3, putF])]
  have s4 : ex C (.setF (.var 0) "places" (.dcomp false (.var 3) (.var 2) (.tup [2, 3]) .enum [(.idx (.var 1) (.cst (.int 0)))] [])) σ (S ++ [.ins cc f3]) = some (.nx, σ, S ++ [.ins cc f4]) := by
    have ec : ev C (.dcomp false (.var 3) (.var 2) (.tup [2, 3]) .enum [(.idx (.var 1) (.cst (.int 0)))] []) σ (S ++ [.ins cc f3]) = some (.dic (placesL 0 cs), S ++ [.ins cc f3]) := by
      rw [ev, evs_1 (e0 _)]
      simp only [Option.bind_some, items_enum_tup, enum_map]
      have hc := places_comp (g := fun S' => guard (S ++ [.ins cc f3]) S' [.tup (cs.map .str)]) (f := fun x S1 => (bindT (.tup [2, 3]) x σ).bind fun σ' => (evc C [] σ' S1).bind fun b =>
        if b.1 then (ev C (.var 3) σ' b.2).bind fun y => (ev C (.var 2) σ' y.2).bind fun z => if (keyD y.1).isSome then some (some (y.1, z.1), z.2) else none else some (none, b.2)) (S := S ++ [.ins cc f3]) rfl cs [] 0 rfl nd (fun y i => rfl)
      rw [List.nil_append] at hc
      rw [show placesL 0 [] = [] from rfl] at hc
      rw [hc]
      have hl : (placesL 0 cs).length < LIM := by
        have : ∀ (xs : List Str) (k : Nat), (placesL k xs).length = xs.length := by
          intro xs
          induction xs with
          | nil => intro k; rfl
          | cons x xs ih => intro k; rw [placesL, List.length_cons, ih]; rfl
        rw [this]; unfold LIM; omega
      simp only [Option.bind_some, hl, if_true, mkD]
      rfl
    rw [ex_setF ec rfl (app_get S _) (show 3 < 1000 by decide), st f3 _ _ f4 (by simp (decide := true) [f3, f4, putF])]
  have s5 : ex C (.setF (.var 0) "truths" (.comp false (.comp false (.meth (.var 0) "holds" [(.var 4), (.var 5)]) (.name 5) .seq [(.fld (.var 0) "choices")] []) (.name 4) .seq [(.idx (.var 1) (.cst (.int 1)))] [])) σ (S ++ [.ins cc f4]) = some (.nx, σ, S ++ [.ins cc (objF cs fs)]) := by
    have hS4 : (S ++ [Cell.ins cc f4])[S.length]? = some (.ins cc f4) := app_get S _
    have hp4 : lookF "places" f4 = some (.dic (placesL 0 cs)) := by simp (decide := true) [f4, lookF]
    have hc4 : lookF "choices" f4 = some (choicesD cs.length) := by simp (decide := true) [f4, lookF]
    have hh4 : lookF "holds" f4 = none := by simp (decide := true) [f4, lookF]
    have ec : ev C (.comp false (.comp false (.meth (.var 0) "holds" [(.var 4), (.var 5)]) (.name 5) .seq [(.fld (.var 0) "choices")] []) (.name 4) .seq [(.idx (.var 1) (.cst (.int 1)))] []) σ (S ++ [.ins cc f4]) = some (truthsD cs fs, S ++ [.ins cc f4]) := by
      rw [ev_comp (k := .seq) (ds := [.tup (Fm.encs fs)]) (S1 := S ++ [.ins cc f4]) (xs := Fm.encs fs) (evs_1 (e1 (S ++ [.ins cc f4]))) rfl, Fm.encs_map, compL_mapc Fm.enc (fun f => D.lst ((List.range (2 ^ cs.length)).map fun c => .bl (f.val (asg cs c)))) rfl]
      · simp only [Option.bind_some, mk_f, List.length_map]
        rw [if_pos (by rw [ok.len]; unfold LIM; omega)]
        rfl
      · intro f hf
        have inner : ev C (.comp false (.meth (.var 0) "holds" [(.var 4), (.var 5)]) (.name 5) .seq [(.fld (.var 0) "choices")] []) [some (.ref S.length), some (bookD cs fs), none, none, some f.enc, none] (S ++ [.ins cc f4]) = some (.lst ((List.range (2 ^ cs.length)).map fun c => .bl (f.val (asg cs c))), S ++ [.ins cc f4]) := by
          rw [ev_comp (ds := [choicesD cs.length]) (S1 := S ++ [.ins cc f4]) (xs := (List.range (2 ^ cs.length)).map fun i => D.int ((i : Nat) : Int)) (by (simp (decide := true) [exs, ex, ev, evs, evo, evc, bindT, bindL, getV, seqOf, de_str, de_int, de_bl, de_non, de_tup, de_lst, de_dic, de_inp, eqD_str, eqD_int, eqD_bl, bin_eq, bin_ne, bin_inn_tup, bin_inn_lst, bin_notin_tup, bin_notin_lst, bin_inn_str, bin_notin_str, bin_add_int, bin_sub_int, bin_add_tup, bin_add_lst, bin_lt_int, bin_gt_int, bin_le_int, bin_ge_int, bin_band, bin_bor, bin_shl, bin_shr, bin_mod, bin_fdiv, bin_mul_int, bin_mul_lst, bin_mul_tup, un_not, un_inv, idx_tup, idx_lst, idx_str, idx_dic, slc_tup, slc_lst, slc_inp, prim_len_tup, prim_len_lst, prim_len_str, prim_int_int, prim_int_bl, prim_tuple_lst, prim_tuple_tup, prim_list_lst, prim_list_tup, prim_all, prim_any, prim_sum, prim_max2, prim_sorted, prim_lr, prim_abs, atI_0, atI_1, atI_2, cut_from1, items_tup, items_lst, items_rng1, items_enum_tup, items_zip_tup, mk_f, mk_t, LIM, cal_fn, cal_W, cal_meth, cal_init, guard_nil, guard_int, guard_tup, guard_lst, hS4, hc4])) (by unfold choicesD; rw [items_lst, rng0]), compL_mapc (fun c : Nat => D.int ((c : Nat) : Int)) (fun c => D.bl (f.val (asg cs c))) rfl]
          · simp only [Option.bind_some, mk_f, List.length_map, List.length_range]
            rw [if_pos (Nat.le_trans p6 (by unfold LIM; omega))]
          · intro c _
            have hz := ok.sz f hf
            have eh := holds_spec B.f3 B.f10 B.mh cs (by omega) (S ++ [.ins cc f4]) S.length f4 hS4 hp4 hh4 c (n + 10) f (by omega) (by omega) (ok.wf f hf)
            have em : ev C (.meth (.var 0) "holds" [(.var 4), (.var 5)]) [some (.ref S.length), some (bookD cs fs), none, none, some f.enc, some (.int ((c : Nat) : Int))] (S ++ [.ins cc f4]) = some (.bl (f.val (asg cs c)), S ++ [.ins cc f4]) :=
              ev_meth (S := S ++ [.ins cc f4]) (r := S.length) (cl := cc) (f := o 10) (flds := f4) (ds := [f.enc, .int ((c : Nat) : Int)]) rfl hS4 hh4 (by rw [cal_meth]; exact B.mh) rfl eh
            simp only [bindT, List.set_cons_zero, List.set_cons_succ, Option.bind_some, evc, if_true, em]
        simp only [bindT, σ, List.set_cons_zero, List.set_cons_succ, Option.bind_some, evc, if_true, inner]
    rw [ex_setF ec rfl (app_get S _) (show 4 < 1000 by decide), st f4 _ _ (objF cs fs) (by simp (decide := true) [f4, objF, putF])]
  have key : (exs C b9.body ([.ref S.length, bookD cs fs].map some ++ List.replicate b9.nloc none) (S ++ [.ins cc []])) = some (.nx, σ, S ++ [.ins cc (objF cs fs)]) := by
    show exs C [_, _, _, _, _] σ (S ++ [.ins cc []]) = _
    rw [exs_nx s1, exs_nx s2, exs_nx s3, exs_nx s4, exs_nx s5, exs_nil]
  rw [key]
  unfold leaveF
  simp only [Option.bind_some, leave, unref, D.okR, if_true]
  rw [if_pos (keepOk_last _ _ _ (objF_ok cs fs _ cc) S), List.take_of_length_le (by simp)]
/-- Conditions(book) -/
theorem new_spec (B : Base P o cc) (h9 : P.funs[o 9]? = some b9) (n : Nat) (cs : List Str) (fs : List Fm) (S : Store) (ok : BookOk cs fs) {e : E} {σ : Ev} (h : ev (cal P (run P (n + 13))) e σ S = some (bookD cs fs, S)) : ev (cal P (run P (n + 13))) (.new cc [e]) σ S = some (.ref S.length, S ++ [.ins cc (objF cs fs)]) := by
  rw [ev, evs_1 h]
  simp only [Option.bind_some, cal_init, B.mi, cal_fn, init_spec B h9 n cs fs S ok]
end
end Fw
end
section
set_option Elab.async false
set_option linter.all false
set_option autoImplicit false
set_option maxRecDepth 10000
set_option maxHeartbeats 2000000
/-! Pl12: the public functions. -/
namespace Fw
open PySem
theorem lexR_app (lt : Str → Str → Bool) : ∀ (q r : List Str) (x y : List Str), q.length = r.length → q ≠ r → lexR lt (q ++ x) (r ++ y) = lexR lt q r
  | [], [], _, _, _, h => absurd rfl h
  | [], _ :: _, _, _, h, _ => by simp at h
  | _ :: _, [], _, _, h, _ => by simp at h
  | a :: q, b :: r, x, y, h, hn => by
    simp only [List.cons_append, lexR]
    by_cases e : a = b
    · subst e
      rw [if_pos rfl, if_pos rfl]
      exact lexR_app lt q r x y (by simpa using h) fun e => hn (by rw [e])
    · rw [if_neg e, if_neg e]
theorem lexR_same (lt : Str → Str → Bool) : ∀ (q : List Str) (x y : List Str), lexR lt (q ++ x) (q ++ y) = lexR lt x y
  | [], _, _ => rfl
  | a :: q, x, y => by simp only [List.cons_append, lexR, if_true]; exact lexR_same lt q x y
def strL (L : List Lb) : List Str := L.map Lb.str
theorem strL_inj {L M : List Lb} : strL L = strL M ↔ L = M := by
  have := @encL_inj L M
  rw [encL_strs, encL_strs, strs_inj] at this
  exact this
theorem allL_sorted : ∀ n, (allL n).Pairwise fun a b => lexR sLt (strL b) (strL a) = false ∧ a ≠ b
  | 0 => by simp [allL]
  | n + 1 => by
    rw [allL, List.pairwise_flatMap]
    have q1 : sLt Lb.opn.str Lb.inn.str = false := by decide
    have q2 : sLt Lb.out.str Lb.inn.str = false := by decide
    have q3 : sLt Lb.out.str Lb.opn.str = false := by decide
    have n1 : ¬ Lb.opn.str = Lb.inn.str := by decide
    have n2 : ¬ Lb.out.str = Lb.inn.str := by decide
    have n3 : ¬ Lb.out.str = Lb.opn.str := by decide
    constructor
    · intro r hr
      simp only [List.pairwise_cons, List.mem_cons, List.not_mem_nil, or_false, forall_eq_or_imp, forall_eq, strL, List.map_append, lexR_same, List.map_cons, List.map_nil, lexR, if_neg n1, if_neg n2, if_neg n3, q1, q2, q3]
      simp
    · have mem := @allL_mem n
      refine (List.Pairwise.and_mem.mp (allL_sorted n)).imp ?_
      rintro a b ⟨ha, hb, h1, h2⟩ x hx y hy
      have la := mem.mp ha
      have lb := mem.mp hb
      have key : ∀ l m : Lb, lexR sLt (strL (b ++ [m])) (strL (a ++ [l])) = false ∧ a ++ [l] ≠ b ++ [m] := by
        intro l m
        constructor
        · unfold strL
          rw [List.map_append, List.map_append, lexR_app]
          · exact h1
          · rw [List.length_map, List.length_map, la, lb]
          · intro e
            exact h2 (strL_inj.mp e).symm
        · intro e
          exact h2 (List.append_inj_left e (by omega))
      simp only [List.mem_cons, List.not_mem_nil, or_false] at hx hy
      rcases hx with rfl | rfl | rfl <;> rcases hy with rfl | rfl | rfl <;> exact key _ _
theorem wayL_sub (cs : List Str) (fs : List Fm) (w : Way) (hw : w ≠ .gro) : (wayL cs fs w).Sublist (allL cs.length) := by
  have g : (goodL cs fs).Sublist (allL cs.length) := List.filter_sublist
  have d : (doneL cs fs).Sublist (allL cs.length) := List.filter_sublist.trans g
  cases w with
  | adm => exact g
  | com => exact d
  | gro => exact absurd rfl hw
  | pre => exact List.filter_sublist.trans g
  | mod => exact List.filter_sublist.trans d
  | sta => exact List.filter_sublist.trans d
theorem wayL_sorted (cs : List Str) (fs : List Fm) (w : Way) : ((wayL cs fs w).map strL).Pairwise fun a b => lexR sLt b a = false := by
  rw [List.pairwise_map]
  by_cases hw : w = .gro
  · subst hw; exact List.pairwise_singleton _ _
  · exact ((allL_sorted _).sublist (wayL_sub cs fs w hw)).imp fun h => h.1
theorem wayL_sort (cs : List Str) (fs : List Fm) (w : Way) : sortD ((wayL cs fs w).map encL) = some ((wayL cs fs w).map encL) := by
  have := sortD_sorted (wayL_sorted cs fs w)
  rw [List.map_map] at this
  have e : ((fun r => D.tup (List.map D.str r)) ∘ strL) = encL := by funext L; exact (encL_strs L).symm
  rwa [e] at this
/-! ### checks -/
def b7 : FD := ⟨1, 0, [
  .ife (.b2 .notin (.var 0) (.cst (.tup [(.str "admissible"), (.str "complete"), (.str "grounded"), (.str "preferred"), (.str "model"), (.str "stable")]))) [.never] [],
  .ret (.cst .non)]⟩
theorem way_spec {P : Prog} {i : Nat} (h : P.funs[i]? = some b7) (n : Nat) (w : Way) (S : Store) : run P (n + 1) i [.str w.str] S = some (.non, S) := by
  rw [run_eq h rfl]
  have m := memD_strs w.str ["admissible", "complete", "grounded", "preferred", "model", "stable"]
  have e : decide (w.str ∈ (["admissible", "complete", "grounded", "preferred", "model", "stable"] : List Str)) = true := by cases w <;> decide
  rw [e] at m
  simp only [List.map_cons, List.map_nil] at m
  have key : (exs (cal P (run P n)) b7.body ([.str w.str].map some ++ List.replicate b7.nloc none) S) = some (.rt .non, [some (.str w.str)], S) := by
    show exs (cal P (run P n)) [_, _] [some (.str w.str)] S = _
    rw [exs_nx (σ' := [some (.str w.str)]) (S' := S) (by (simp (decide := true) [exs, ex, ev, evs, evo, evc, bindT, bindL, getV, seqOf, de_str, de_int, de_bl, de_non, de_tup, de_lst, de_dic, de_inp, eqD_str, eqD_int, eqD_bl, bin_eq, bin_ne, bin_inn_tup, bin_inn_lst, bin_notin_tup, bin_notin_lst, bin_inn_str, bin_notin_str, bin_add_int, bin_sub_int, bin_add_tup, bin_add_lst, bin_lt_int, bin_gt_int, bin_le_int, bin_ge_int, bin_band, bin_bor, bin_shl, bin_shr, bin_mod, bin_fdiv, bin_mul_int, bin_mul_lst, bin_mul_tup, un_not, un_inv, idx_tup, idx_lst, idx_str, idx_dic, slc_tup, slc_lst, slc_inp, prim_len_tup, prim_len_lst, prim_len_str, prim_int_int, prim_int_bl, prim_tuple_lst, prim_tuple_tup, prim_list_lst, prim_list_tup, prim_all, prim_any, prim_sum, prim_max2, prim_sorted, prim_lr, prim_abs, atI_0, atI_1, atI_2, cut_from1, items_tup, items_lst, items_rng1, items_enum_tup, items_zip_tup, mk_f, mk_t, LIM, cal_fn, cal_W, cal_meth, cal_init, guard_nil, guard_int, guard_tup, guard_lst, m]))]
    exact exs_rt (ex_ret rfl)
  rw [key, Option.bind_some]
  exact leaveF_py0 rfl
def b8 : FD := ⟨2, 1, [
  .ife (.or (.b2 .ne (.prim .len [(.var 1)]) (.prim .len [(.idx (.var 0) (.cst (.int 0)))])) (.u1 .not (.prim .all [(.comp false (.b2 .inn (.var 2) (.cst (.tup [(.str "in"), (.str "open"), (.str "out")]))) (.name 2) .seq [(.var 1)] [])]))) [.never] [],
  .ret (.cst .non)]⟩
theorem bl_spec {P : Prog} {i : Nat} (h : P.funs[i]? = some b8) (n : Nat) (cs : List Str) (fs : List Fm) (L : List Lb) (S : Store) (hL : L.length = cs.length) (hk : cs.length ≤ 10) : run P (n + 1) i [bookD cs fs, encL L] S = some (.non, S) := by
  rw [run_eq h rfl]
  have ea : ev (cal P (run P n)) (.prim .all [(.comp false (.b2 .inn (.var 2) (.cst (.tup [(.str "in"), (.str "open"), (.str "out")]))) (.name 2) .seq [(.var 1)] [])]) [some (bookD cs fs), some (encL L), none] S = some (.bl true, S) := by
    refine all_bl_true L ?_
    rw [ev_comp (ds := [encL L]) (S1 := S) (xs := L.map fun l => D.str l.str) rfl rfl, compL_mapc (fun l : Lb => D.str l.str) (fun _ => D.bl true) rfl]
    · simp only [Option.bind_some, mk_f, List.length_map]
      rw [if_pos (by unfold LIM; omega)]
    · intro l _
      have m := memD_strs l.str ["in", "open", "out"]
      have e : decide (l.str ∈ (["in", "open", "out"] : List Str)) = true := by cases l <;> decide
      rw [e] at m
      simp only [List.map_cons, List.map_nil] at m
      (simp (decide := true) [exs, ex, ev, evs, evo, evc, bindT, bindL, getV, seqOf, de_str, de_int, de_bl, de_non, de_tup, de_lst, de_dic, de_inp, eqD_str, eqD_int, eqD_bl, bin_eq, bin_ne, bin_inn_tup, bin_inn_lst, bin_notin_tup, bin_notin_lst, bin_inn_str, bin_notin_str, bin_add_int, bin_sub_int, bin_add_tup, bin_add_lst, bin_lt_int, bin_gt_int, bin_le_int, bin_ge_int, bin_band, bin_bor, bin_shl, bin_shr, bin_mod, bin_fdiv, bin_mul_int, bin_mul_lst, bin_mul_tup, un_not, un_inv, idx_tup, idx_lst, idx_str, idx_dic, slc_tup, slc_lst, slc_inp, prim_len_tup, prim_len_lst, prim_len_str, prim_int_int, prim_int_bl, prim_tuple_lst, prim_tuple_tup, prim_list_lst, prim_list_tup, prim_all, prim_any, prim_sum, prim_max2, prim_sorted, prim_lr, prim_abs, atI_0, atI_1, atI_2, cut_from1, items_tup, items_lst, items_rng1, items_enum_tup, items_zip_tup, mk_f, mk_t, LIM, cal_fn, cal_W, cal_meth, cal_init, guard_nil, guard_int, guard_tup, guard_lst, m])
  have e1 : ev (cal P (run P n)) (.b2 .ne (.prim .len [(.var 1)]) (.prim .len [(.idx (.var 0) (.cst (.int 0)))])) [some (bookD cs fs), some (encL L), none] S = some (.bl false, S) := by
    unfold bookD encL
    (simp (decide := true) [exs, ex, ev, evs, evo, evc, bindT, bindL, getV, seqOf, de_str, de_int, de_bl, de_non, de_tup, de_lst, de_dic, de_inp, eqD_str, eqD_int, eqD_bl, bin_eq, bin_ne, bin_inn_tup, bin_inn_lst, bin_notin_tup, bin_notin_lst, bin_inn_str, bin_notin_str, bin_add_int, bin_sub_int, bin_add_tup, bin_add_lst, bin_lt_int, bin_gt_int, bin_le_int, bin_ge_int, bin_band, bin_bor, bin_shl, bin_shr, bin_mod, bin_fdiv, bin_mul_int, bin_mul_lst, bin_mul_tup, un_not, un_inv, idx_tup, idx_lst, idx_str, idx_dic, slc_tup, slc_lst, slc_inp, prim_len_tup, prim_len_lst, prim_len_str, prim_int_int, prim_int_bl, prim_tuple_lst, prim_tuple_tup, prim_list_lst, prim_list_tup, prim_all, prim_any, prim_sum, prim_max2, prim_sorted, prim_lr, prim_abs, atI_0, atI_1, atI_2, cut_from1, items_tup, items_lst, items_rng1, items_enum_tup, items_zip_tup, mk_f, mk_t, LIM, cal_fn, cal_W, cal_meth, cal_init, guard_nil, guard_int, guard_tup, guard_lst, hL])
  have key : (exs (cal P (run P n)) b8.body ([bookD cs fs, encL L].map some ++ List.replicate b8.nloc none) S) = some (.rt .non, [some (bookD cs fs), some (encL L), none], S) := by
    show exs (cal P (run P n)) [_, _] [some (bookD cs fs), some (encL L), none] S = _
    rw [exs_nx (σ' := [some (bookD cs fs), some (encL L), none]) (S' := S) (by
      rw [ex_if_f (S1 := S)]
      · exact exs_nil
      · rw [ev, e1]
        simp only [Option.bind_some]
        rw [ev, ea]
        rfl)]
    exact exs_rt (ex_ret rfl)
  rw [key, Option.bind_some]
  exact leaveF_py0 rfl
/-! ### condition_labels -/
def b17 (o : Nat → Nat) (cc : Nat) : FD := ⟨2, 0, [
  .expr (.call (o 6) [(.var 0)]),
  .expr (.call (o 7) [(.var 1)]),
  .ret (.prim .tuple [(.prim .sorted [(.call (o 16) [(.new cc [(.var 0)]), (.var 1)])])])]⟩
def b18 (o : Nat → Nat) (cc : Nat) : FD := ⟨2, 0, [
  .expr (.call (o 6) [(.var 0)]),
  .expr (.call (o 8) [(.var 0), (.var 1)]),
  .ret (.meth (.new cc [(.var 0)]) "after" [(.var 1)])]⟩
section
variable {P : Prog} {o : Nat → Nat} {cc : Nat}
theorem check_spec (B : Base P o cc) (n : Nat) (cs : List Str) (fs : List Fm) (S : Store) (ok : BookOk cs fs) : run P (n + 13) (o 6) [bookD cs fs] S = some (.non, S) :=
  book_spec B.f0 B.f1 B.f3 B.f4 B.f5 B.f6 n cs fs S ok
abbrev waysD (cs : List Str) (fs : List Fm) (w : Way) : D := .tup ((wayL cs fs w).map encL)
theorem waysD_py (cs : List Str) (fs : List Fm) (w : Way) : (waysD cs fs w).isPy = true := by
  unfold waysD
  rw [D.isPy]
  exact isPys_of fun x hx => by obtain ⟨L, _, rfl⟩ := List.mem_map.mp hx; exact encL_py L
theorem ways_spec (B : Base P o cc) (h7 : P.funs[o 7]? = some b7) (h9 : P.funs[o 9]? = some b9) (h16 : P.funs[o 16]? = some (b16 o)) (h17 : P.funs[o 17]? = some (b17 o cc)) (n : Nat) (cs : List Str) (fs : List Fm) (S : Store) (ok : BookOk cs fs) (en : Ends cs fs) (w : Way) :
    run P (n + 14) (o 17) [bookD cs fs, .str w.str] S = some (waysD cs fs w, S) := by
  rw [run_eq h17 rfl]
  have c6 := check_spec B n cs fs S ok
  have c7 := way_spec h7 (n + 12) w S
  have c9 := new_spec B h9 n cs fs S ok (e := .var 0) (σ := [some (bookD cs fs), some (.str w.str)]) rfl
  have c16 := known_spec B h16 (n + 9) cs fs (S ++ [.ins cc (objF cs fs)]) S.length ok.n6 ok.len (app_get S _) en w
  have ec : ev (cal P (run P (n + 13))) (.call (o 16) [(.new cc [(.var 0)]), (.var 1)]) [some (bookD cs fs), some (.str w.str)] S = some (.lst ((wayL cs fs w).map encL), S ++ [.ins cc (objF cs fs)]) :=
    ev_call (evs_2 c9 rfl) c16
  have key : (exs (cal P (run P (n + 13))) (b17 o cc).body ([bookD cs fs, .str w.str].map some ++ List.replicate (b17 o cc).nloc none) S) = some (.rt (waysD cs fs w), [some (bookD cs fs), some (.str w.str)], S ++ [.ins cc (objF cs fs)]) := by
    show exs (cal P (run P (n + 13))) [_, _, _] [some (bookD cs fs), some (.str w.str)] S = _
    rw [exs_nx (ex_expr (d := .non) (S1 := S) (ev_call (evs_1 rfl) c6)), exs_nx (ex_expr (d := .non) (S1 := S) (ev_call (evs_1 rfl) c7))]
    have es : ev (cal P (run P (n + 13))) (.prim .sorted [(.call (o 16) [(.new cc [(.var 0)]), (.var 1)])]) [some (bookD cs fs), some (.str w.str)] S = some (.lst ((wayL cs fs w).map encL), S ++ [.ins cc (objF cs fs)]) :=
      ev_prim (evs_1 ec) (by show prim .sorted [.lst _] = _; rw [prim_sorted, wayL_sort]; rfl)
    exact exs_rt (ex_ret (ev_prim (evs_1 es) rfl))
  rw [key, Option.bind_some]
  exact leaveF_py (waysD_py cs fs w)
theorem next_spec (B : Base P o cc) (h8 : P.funs[o 8]? = some b8) (h9 : P.funs[o 9]? = some b9) (h18 : P.funs[o 18]? = some (b18 o cc)) (n : Nat) (cs : List Str) (fs : List Fm) (S : Store) (ok : BookOk cs fs) (L : List Lb) (hL : L.length = cs.length) :
    run P (n + 14) (o 18) [bookD cs fs, encL L] S = some (encL (gams cs fs L), S) := by
  rw [run_eq h18 rfl]
  have n6 := ok.n6
  have c6 := check_spec B n cs fs S ok
  have c8 := bl_spec h8 (n + 12) cs fs L S hL (by omega)
  have c9 := new_spec B h9 n cs fs S ok (e := .var 0) (σ := [some (bookD cs fs), some (encL L)]) rfl
  have ca := after_obj B (n + 11) cs fs L (S ++ [.ins cc (objF cs fs)]) S.length (by omega) (by omega) (by have := ok.len; omega) (app_get S _)
  have key : (exs (cal P (run P (n + 13))) (b18 o cc).body ([bookD cs fs, encL L].map some ++ List.replicate (b18 o cc).nloc none) S) = some (.rt (encL (gams cs fs L)), [some (bookD cs fs), some (encL L)], S ++ [.ins cc (objF cs fs)]) := by
    show exs (cal P (run P (n + 13))) [_, _, _] [some (bookD cs fs), some (encL L)] S = _
    rw [exs_nx (ex_expr (d := .non) (S1 := S) (ev_call (evs_1 rfl) c6)), exs_nx (ex_expr (d := .non) (S1 := S) (ev_call (evs_2 rfl rfl) c8))]
    refine exs_rt (ex_ret ?_)
    rw [ev, c9]
    simp only [Option.bind_some, app_get]
    rw [show lookF "after" (objF cs fs) = none from rfl]
    simp only [Option.isSome_none, Bool.false_eq_true, if_false, cal_meth, B.ma]
    rw [show evs (cal P (run P (n + 13))) [(.var 1)] [some (bookD cs fs), some (encL L)] (S ++ [Cell.ins cc (objF cs fs)]) = some ([encL L], S ++ [Cell.ins cc (objF cs fs)]) from rfl]
    simp only [Option.bind_some, app_get, if_true, cal_fn, ca]
  rw [key, Option.bind_some]
  exact leaveF_py (encL_py _)
end
end Fw
end
section
set_option Elab.async false
set_option linter.all false
set_option autoImplicit false
set_option maxRecDepth 10000
set_option maxHeartbeats 2000000
/-! Pl13: links and joins. -/
namespace Fw
open PySem
structure Bx (d : D) : Prop where
  py : d.isPy = true
  ni : d.noI = true
  dp : d.dep ≤ 60
theorem memD_bx {x : D} {ys : List D} (hx : Bx x) (hy : ∀ y ∈ ys, Bx y) : memD x ys = some (decide (x ∈ ys)) := by
  unfold memD
  have h1 := hx.dp
  have h2 : D.isPys ys = true := isPys_of fun y h => (hy y h).py
  simp only [hx.py, h2, Bool.true_and, show decide (x.dep ≤ 63) = true from decide_eq_true (by omega), Bool.true_or, if_true, Option.some.injEq]
  clear h2
  induction ys with
  | nil => simp
  | cons y ys ih =>
    rw [List.any_cons, ih fun z hz => hy z (List.mem_cons_of_mem _ hz), eqv_noI y x (hy y List.mem_cons_self).py hx.py (hy y List.mem_cons_self).ni hx.ni, same_dec]
    by_cases e : y = x
    · subst e; simp
    · have : ¬ x = y := fun w => e w.symm
      simp [e, this]
def prD (p : Bool × Bool) : D := .tup [.bl p.1, .bl p.2]
theorem prD_bx (p : Bool × Bool) : Bx (prD p) := ⟨rfl, rfl, Nat.le_trans (dep_tup (n := 0) fun x hx => by simp at hx; rcases hx with rfl | rfl <;> simp [dep_bl]) (by omega)⟩
theorem prD_inj {p q : Bool × Bool} : prD p = prD q ↔ p = q := by
  obtain ⟨a, b⟩ := p
  obtain ⟨c, d⟩ := q
  simp [prD]
theorem memD_pr (p : Bool × Bool) (l : List (Bool × Bool)) : memD (prD p) (l.map prD) = some (decide (p ∈ l)) := by
  rw [memD_bx (prD_bx p) fun y hy => by obtain ⟨q, _, rfl⟩ := List.mem_map.mp hy; exact prD_bx q]
  congr 1
  rw [decide_eq_decide]
  constructor
  · intro h
    obtain ⟨q, hq, e⟩ := List.mem_map.mp h
    rw [← prD_inj.mp e]; exact hq
  · intro h; exact List.mem_map.mpr ⟨p, h, rfl⟩
theorem band_nat (a b : Nat) : PySem.Builtin.bitAnd (a : Int) (b : Int) = ((a &&& b : Nat) : Int) := by
  rw [PyProof.Rows.bitAnd_pp (Int.natCast_nonneg a) (Int.natCast_nonneg b), Int.toNat_natCast, Int.toNat_natCast]
theorem bor_nat (a b : Nat) : PySem.Builtin.bitOr (a : Int) (b : Int) = ((a ||| b : Nat) : Int) := by
  rw [PyProof.Rows.bitOr_and, band_nat]
  have := PyProof.Rows.nat_or_add_and a b
  omega
/-- the answers without and with a claim -/
def pairs (cs : List Str) (f : Fm) (i : Nat) : List (Bool × Bool) := ((List.range (2 ^ cs.length)).filter fun c => decide (c &&& 2 ^ i = 0)).map fun c => (f.val (asg cs c), f.val (asg cs (c ||| 2 ^ i)))
def kindS (l : List (Bool × Bool)) : Str :=
  if (true, false) ∈ l ∧ (false, true) ∈ l then "both" else if (true, false) ∈ l then "attacks" else if (false, true) ∈ l then "supports" else "none"
def linkS (cs : List Str) (fs : List Fm) (a b : Str) : Str := kindS (pairs cs ((fs[cs.idxOf b]?).getD .ff) (cs.idxOf a))
def b19 (o : Nat → Nat) (cc : Nat) : FD := ⟨3, 7, [
  .expr (.call (o 6) [(.var 0)]),
  .ife (.or (.b2 .notin (.var 1) (.idx (.var 0) (.cst (.int 0)))) (.b2 .notin (.var 2) (.idx (.var 0) (.cst (.int 0))))) [.never] [],
  .asg (.name 3) (.new cc [(.var 0)]),
  .asg (.name 4) (.idx (.fld (.var 3) "truths") (.idx (.fld (.var 3) "places") (.var 2))),
  .asg (.name 5) (.b2 .shl (.cst (.int 1)) (.idx (.fld (.var 3) "places") (.var 1))),
  .asg (.name 6) (.comp false (.tup [(.idx (.var 4) (.var 9)), (.idx (.var 4) (.b2 .bor (.var 9) (.var 5)))]) (.name 9) .seq [(.fld (.var 3) "choices")] [(.b2 .eq (.b2 .band (.var 9) (.var 5)) (.cst (.int 0)))]),
  .par [7, 8] [(.b2 .inn (.tup [(.cst (.bl true)), (.cst (.bl false))]) (.var 6)), (.b2 .inn (.tup [(.cst (.bl false)), (.cst (.bl true))]) (.var 6))],
  .ret (.ite (.and (.var 7) (.var 8)) (.cst (.str "both")) (.ite (.var 7) (.cst (.str "attacks")) (.ite (.var 8) (.cst (.str "supports")) (.cst (.str "none")))))]⟩
def truthD (cs : List Str) (f : Fm) : D := .lst ((List.range (2 ^ cs.length)).map fun c => .bl (f.val (asg cs c)))
theorem truthsD_at (cs : List Str) (fs : List Fm) (j : Nat) (h : j < fs.length) : L2.atI (fs.map (truthD cs)) (j : Int) = some (truthD cs ((fs[j]?).getD .ff)) := by
  rw [atI_nat, List.getElem?_map, List.getElem?_eq_getElem h]
  rfl
theorem truthD_at (cs : List Str) (f : Fm) (c : Nat) (h : c < 2 ^ cs.length) : L2.atI ((List.range (2 ^ cs.length)).map fun c => D.bl (f.val (asg cs c))) (c : Int) = some (.bl (f.val (asg cs c))) := by
  rw [atI_nat, List.getElem?_map, List.getElem?_range h]
  rfl
theorem or_lt {c i n : Nat} (hc : c < 2 ^ n) (hi : i < n) : c ||| 2 ^ i < 2 ^ n :=
  Nat.or_lt_two_pow hc (Nat.pow_lt_pow_right (by omega) hi)
section
variable {P : Prog} {o : Nat → Nat} {cc : Nat}
theorem link_spec (B : Base P o cc) (h9 : P.funs[o 9]? = some b9) (h19 : P.funs[o 19]? = some (b19 o cc)) (n : Nat) (cs : List Str) (fs : List Fm) (S : Store) (ok : BookOk cs fs) (a b : Str) (ha : a ∈ cs) (hb : b ∈ cs) :
    run P (n + 14) (o 19) [bookD cs fs, .str a, .str b] S = some (.str (linkS cs fs a b), S) := by
  rw [run_eq h19 rfl]
  have n6 := ok.n6
  have hia : cs.idxOf a < cs.length := List.idxOf_lt_length_of_mem ha
  have hib : cs.idxOf b < cs.length := List.idxOf_lt_length_of_mem hb
  have c6 := check_spec B n cs fs S ok
  have p6 : 2 ^ cs.length ≤ 64 := Nat.le_trans (Nat.pow_le_pow_right (by omega) n6) (by decide)
  generalize hf : (fs[cs.idxOf b]?).getD .ff = f
  generalize hi : cs.idxOf a = i at hia
  generalize hS1 : S ++ [Cell.ins cc (objF cs fs)] = S1
  have hSr : S1[S.length]? = some (.ins cc (objF cs fs)) := by rw [← hS1]; exact app_get S _
  have c9 : ∀ σ, ev (cal P (run P (n + 13))) (.var 0) σ S = some (bookD cs fs, S) → ev (cal P (run P (n + 13))) (.new cc [(.var 0)]) σ S = some (.ref S.length, S1) := fun σ h => by rw [← hS1]; exact new_spec B h9 n cs fs S ok h
  have q1 : ∀ x : Str, x ∈ cs → ∀ (i : Nat) σ, ev (cal P (run P (n + 13))) (.var i) σ S = some (.str x, S) → ev (cal P (run P (n + 13))) (.var 0) σ S = some (bookD cs fs, S) → ev (cal P (run P (n + 13))) (.b2 .notin (.var i) (.idx (.var 0) (.cst (.int 0)))) σ S = some (.bl false, S) := fun x hx i σ h h0 => by
    rw [ev, h]
    simp only [Option.bind_some]
    rw [ev, h0]
    have m := memD_strs x cs
    rw [decide_eq_true hx] at m
    unfold bookD
    (simp (decide := true) [exs, ex, ev, evs, evo, evc, bindT, bindL, getV, seqOf, de_str, de_int, de_bl, de_non, de_tup, de_lst, de_dic, de_inp, eqD_str, eqD_int, eqD_bl, bin_eq, bin_ne, bin_inn_tup, bin_inn_lst, bin_notin_tup, bin_notin_lst, bin_inn_str, bin_notin_str, bin_add_int, bin_sub_int, bin_add_tup, bin_add_lst, bin_lt_int, bin_gt_int, bin_le_int, bin_ge_int, bin_band, bin_bor, bin_shl, bin_shr, bin_mod, bin_fdiv, bin_mul_int, bin_mul_lst, bin_mul_tup, un_not, un_inv, idx_tup, idx_lst, idx_str, idx_dic, slc_tup, slc_lst, slc_inp, prim_len_tup, prim_len_lst, prim_len_str, prim_int_int, prim_int_bl, prim_tuple_lst, prim_tuple_tup, prim_list_lst, prim_list_tup, prim_all, prim_any, prim_sum, prim_max2, prim_sorted, prim_lr, prim_abs, atI_0, atI_1, atI_2, cut_from1, items_tup, items_lst, items_rng1, items_enum_tup, items_zip_tup, mk_f, mk_t, LIM, cal_fn, cal_W, cal_meth, cal_init, guard_nil, guard_int, guard_tup, guard_lst, m])
  have pl : ∀ x : Str, x ∈ cs → ∀ (i j : Nat) σ, ev (cal P (run P (n + 13))) (.var i) σ S1 = some (.ref S.length, S1) → ev (cal P (run P (n + 13))) (.var j) σ S1 = some (.str x, S1) → ev (cal P (run P (n + 13))) (.idx (.fld (.var i) "places") (.var j)) σ S1 = some (.int ((cs.idxOf x : Nat) : Int), S1) := fun x hx i j σ h h2 => by
    have hl := places_look (k := 0) hx
    rw [Nat.zero_add] at hl
    rw [ev, ev, h]
    simp only [Option.bind_some, hSr]
    rw [show lookF "places" (objF cs fs) = some (.dic (placesL 0 cs)) from rfl]
    simp only [Option.map_some, Option.bind_some, h2, de_dic, de_str, idx_dic, keyD, hl]
  have key : ∃ σ, (exs (cal P (run P (n + 13))) (b19 o cc).body ([bookD cs fs, .str a, .str b].map some ++ List.replicate (b19 o cc).nloc none) S) = some (.rt (.str (kindS (pairs cs f i))), σ, S1) := by
    refine ⟨[some (bookD cs fs), some (.str a), some (.str b), some (.ref S.length), some (truthD cs f), some (.int ((2 ^ i : Nat) : Int)), some (.lst ((pairs cs f i).map prD)), some (.bl (decide ((true, false) ∈ pairs cs f i))), some (.bl (decide ((false, true) ∈ pairs cs f i))), none], ?_⟩
    · show exs (cal P (run P (n + 13))) [_, _, _, _, _, _, _, _] [some (bookD cs fs), some (.str a), some (.str b), none, none, none, none, none, none, none] S = _
      rw [exs_nx (ex_expr (d := .non) (S1 := S) (ev_call (evs_1 rfl) c6)),
        exs_nx (σ' := [some (bookD cs fs), some (.str a), some (.str b), none, none, none, none, none, none, none]) (S' := S) (by
          rw [ex_if_f (S1 := S)]
          · exact exs_nil
          · rw [ev, q1 a ha 1 _ rfl rfl]
            simp only [Option.bind_some]
            exact q1 b hb 2 _ rfl rfl),
        exs_nx (σ' := [some (bookD cs fs), some (.str a), some (.str b), some (.ref S.length), none, none, none, none, none, none]) (S' := S1) (ex_asg (c9 _ rfl) rfl),
        exs_nx (σ' := [some (bookD cs fs), some (.str a), some (.str b), some (.ref S.length), some (truthD cs f), none, none, none, none, none]) (S' := S1) (ex_asg (by
          rw [ev, ev, show ev (cal P (run P (n + 13))) (.var 3) [some (bookD cs fs), some (.str a), some (.str b), some (.ref S.length), none, none, none, none, none, none] S1 = some (.ref S.length, S1) from rfl]
          simp only [Option.bind_some, hSr]
          rw [show lookF "truths" (objF cs fs) = some (.lst (fs.map (truthD cs))) from rfl]
          simp only [Option.map_some, Option.bind_some, pl b hb 3 2 [some (bookD cs fs), some (.str a), some (.str b), some (.ref S.length), none, none, none, none, none, none] rfl rfl, de_lst, de_int, idx_lst]
          rw [truthsD_at cs fs _ (by rw [ok.len]; exact hib), hf]
          rfl) rfl),
        exs_nx (σ' := [some (bookD cs fs), some (.str a), some (.str b), some (.ref S.length), some (truthD cs f), some (.int ((2 ^ i : Nat) : Int)), none, none, none, none]) (S' := S1) (ex_asg (by
          rw [ev, ev]
          simp only [Option.bind_some, pl a ha 3 1 [some (bookD cs fs), some (.str a), some (.str b), some (.ref S.length), some (truthD cs f), none, none, none, none, none] rfl rfl, hi, de_int, bin_shl1 (show i ≤ 6 by omega)]
          rfl) rfl),
        exs_nx (σ' := [some (bookD cs fs), some (.str a), some (.str b), some (.ref S.length), some (truthD cs f), some (.int ((2 ^ i : Nat) : Int)), some (.lst ((pairs cs f i).map prD)), none, none, none]) (S' := S1) (ex_asg (by
          rw [ev_comp (ds := [choicesD cs.length]) (S1 := S1) (xs := (List.range (2 ^ cs.length)).map fun i => D.int ((i : Nat) : Int)) (evs_1 (by
              rw [ev, show ev (cal P (run P (n + 13))) (.var 3) [some (bookD cs fs), some (.str a), some (.str b), some (.ref S.length), some (truthD cs f), some (.int ((2 ^ i : Nat) : Int)), none, none, none, none] S1 = some (.ref S.length, S1) from rfl]
              simp only [Option.bind_some, hSr]
              rfl)) (by unfold choicesD; rw [items_lst, rng0]),
            compL_filterc (fun c : Nat => D.int ((c : Nat) : Int)) (fun c => decide (c &&& 2 ^ i = 0)) (fun c => prD (f.val (asg cs c), f.val (asg cs (c ||| 2 ^ i)))) rfl]
          · simp only [Option.bind_some, mk_f, List.length_map]
            have l1 := List.length_filter_le (fun c => decide (c &&& 2 ^ i = 0)) (List.range (2 ^ cs.length))
            rw [List.length_range] at l1
            rw [if_pos (by unfold LIM; omega)]
            unfold pairs
            rw [List.map_map]
            rfl
          · intro c hc
            rw [List.mem_range] at hc
            have t1 := truthD_at cs f c hc
            have t2 := truthD_at cs f _ (or_lt hc hia)
            have hd : (decide (((c &&& 2 ^ i : Nat) : Int) = 0)) = decide (c &&& 2 ^ i = 0) := by rw [decide_eq_decide]; omega
            simp only [bindT, List.set_cons_zero, List.set_cons_succ, Option.bind_some, evc, ev, getV, List.getElem?_cons_zero, List.getElem?_cons_succ, Option.join_some, Option.map_some, de_int, bin_band, bin_bor, band_nat, bor_nat, bin_eq, eqD_int, hd]
            by_cases z : c &&& 2 ^ i = 0
            · have t1' : ∀ S, idx (deref S (truthD cs f)) (.int (c : Nat)) = some (.bl (f.val (asg cs c))) := fun S => t1
              have t2' : ∀ S, idx (deref S (truthD cs f)) (.int ((c ||| 2 ^ i : Nat) : Int)) = some (.bl (f.val (asg cs (c ||| 2 ^ i)))) := fun S => t2
              simp only [z, decide_true, if_true, evs, ev, getV, List.getElem?_cons_zero, List.getElem?_cons_succ, Option.join_some, Option.map_some, Option.bind_some, de_int, bin_bor, bor_nat, t1', t2', prD]
              rfl
            · simp only [z, decide_false]
              rfl) rfl),
        exs_nx (σ' := [some (bookD cs fs), some (.str a), some (.str b), some (.ref S.length), some (truthD cs f), some (.int ((2 ^ i : Nat) : Int)), some (.lst ((pairs cs f i).map prD)), some (.bl (decide ((true, false) ∈ pairs cs f i))), some (.bl (decide ((false, true) ∈ pairs cs f i))), none]) (S' := S1) (by
          have m1 : memD (.tup [.bl true, .bl false]) ((pairs cs f i).map prD) = _ := memD_pr (true, false) (pairs cs f i)
          have m2 : memD (.tup [.bl false, .bl true]) ((pairs cs f i).map prD) = _ := memD_pr (false, true) (pairs cs f i)
          (simp (decide := true) [exs, ex, ev, evs, evo, evc, bindT, bindL, getV, seqOf, de_str, de_int, de_bl, de_non, de_tup, de_lst, de_dic, de_inp, eqD_str, eqD_int, eqD_bl, bin_eq, bin_ne, bin_inn_tup, bin_inn_lst, bin_notin_tup, bin_notin_lst, bin_inn_str, bin_notin_str, bin_add_int, bin_sub_int, bin_add_tup, bin_add_lst, bin_lt_int, bin_gt_int, bin_le_int, bin_ge_int, bin_band, bin_bor, bin_shl, bin_shr, bin_mod, bin_fdiv, bin_mul_int, bin_mul_lst, bin_mul_tup, un_not, un_inv, idx_tup, idx_lst, idx_str, idx_dic, slc_tup, slc_lst, slc_inp, prim_len_tup, prim_len_lst, prim_len_str, prim_int_int, prim_int_bl, prim_tuple_lst, prim_tuple_tup, prim_list_lst, prim_list_tup, prim_all, prim_any, prim_sum, prim_max2, prim_sorted, prim_lr, prim_abs, atI_0, atI_1, atI_2, cut_from1, items_tup, items_lst, items_rng1, items_enum_tup, items_zip_tup, mk_f, mk_t, LIM, cal_fn, cal_W, cal_meth, cal_init, guard_nil, guard_int, guard_tup, guard_lst, m1, m2]))]
      refine exs_rt (ex_ret ?_)
      unfold kindS
      by_cases z1 : (true, false) ∈ pairs cs f i <;> by_cases z2 : (false, true) ∈ pairs cs f i <;> (simp (decide := true) [exs, ex, ev, evs, evo, evc, bindT, bindL, getV, seqOf, de_str, de_int, de_bl, de_non, de_tup, de_lst, de_dic, de_inp, eqD_str, eqD_int, eqD_bl, bin_eq, bin_ne, bin_inn_tup, bin_inn_lst, bin_notin_tup, bin_notin_lst, bin_inn_str, bin_notin_str, bin_add_int, bin_sub_int, bin_add_tup, bin_add_lst, bin_lt_int, bin_gt_int, bin_le_int, bin_ge_int, bin_band, bin_bor, bin_shl, bin_shr, bin_mod, bin_fdiv, bin_mul_int, bin_mul_lst, bin_mul_tup, un_not, un_inv, idx_tup, idx_lst, idx_str, idx_dic, slc_tup, slc_lst, slc_inp, prim_len_tup, prim_len_lst, prim_len_str, prim_int_int, prim_int_bl, prim_tuple_lst, prim_tuple_tup, prim_list_lst, prim_list_tup, prim_all, prim_any, prim_sum, prim_max2, prim_sorted, prim_lr, prim_abs, atI_0, atI_1, atI_2, cut_from1, items_tup, items_lst, items_rng1, items_enum_tup, items_zip_tup, mk_f, mk_t, LIM, cal_fn, cal_W, cal_meth, cal_init, guard_nil, guard_int, guard_tup, guard_lst, z1, z2])
  obtain ⟨σ, key⟩ := key
  rw [key, ← hS1, Option.bind_some]
  unfold linkS
  rw [hf, hi]
  exact leaveF_py rfl
end
end Fw
end
section
set_option Elab.async false
set_option linter.all false
set_option autoImplicit false
set_option maxRecDepth 10000
set_option maxHeartbeats 2000000
/-! Pl14: all links, joins. -/
namespace Fw
open PySem
def b20 (o : Nat → Nat) : FD := ⟨1, 4, [
  .expr (.call (o 6) [(.var 0)]),
  .asg (.name 1) (.comp2 false (.tup [(.var 2), (.var 3), (.call (o 19) [(.var 0), (.var 2), (.var 3)])]) (.name 2) .seq [(.idx (.var 0) (.cst (.int 0)))] (.name 3) .seq [(.idx (.var 0) (.cst (.int 0)))]),
  .ret (.prim .tuple [(.comp false (.var 4) (.name 4) .seq [(.var 1)] [(.b2 .ne (.idx (.var 4) (.cst (.int 2))) (.cst (.str "none")))])])]⟩
def b21 (o : Nat → Nat) (cc : Nat) : FD := ⟨1, 5, [
  .expr (.call (o 6) [(.var 0)]),
  .asg (.name 1) (.new cc [(.var 0)]),
  .asg (.name 2) (.comp false (.var 4) (.name 4) .seq [(.fld (.var 1) "choices")] [(.prim .all [(.comp false (.idx (.var 5) (.var 4)) (.name 5) .seq [(.fld (.var 1) "truths")] [])])]),
  .asg (.name 3) (.comp false (.var 4) (.name 4) .seq [(.fld (.var 1) "choices")] [(.u1 .not (.prim .any [(.comp false (.idx (.var 5) (.var 4)) (.name 5) .seq [(.fld (.var 1) "truths")] [])]))]),
  .ret (.tup [(.prim .len [(.var 2)]), (.prim .len [(.var 3)])])]⟩
def tri (p : Str × Str × Str) : D := .tup [.str p.1, .str p.2.1, .str p.2.2]
theorem tri_py (p : Str × Str × Str) : (tri p).isPy = true := rfl
def linkAll (cs : List Str) (fs : List Fm) : List (Str × Str × Str) := cs.flatMap fun a => cs.map fun b => (a, b, linkS cs fs a b)
def linkL (cs : List Str) (fs : List Fm) : List (Str × Str × Str) := (linkAll cs fs).filter fun p => !decide (p.2.2 = "none")
theorem linkAll_length (cs : List Str) (fs : List Fm) (h : cs.length ≤ 6) : (linkAll cs fs).length ≤ 36 := by
  unfold linkAll
  rw [List.length_flatMap]
  have : (cs.map fun a => (cs.map fun b => (a, b, linkS cs fs a b)).length) = cs.map fun _ => cs.length := by
    apply List.map_congr_left; intro a _; rw [List.length_map]
  rw [this, List.map_const', List.sum_replicate_nat]
  exact Nat.mul_le_mul h h
section
variable {P : Prog} {o : Nat → Nat} {cc : Nat}
theorem links_spec (B : Base P o cc) (h9 : P.funs[o 9]? = some b9) (h19 : P.funs[o 19]? = some (b19 o cc)) (h20 : P.funs[o 20]? = some (b20 o)) (n : Nat) (cs : List Str) (fs : List Fm) (S : Store) (ok : BookOk cs fs) :
    run P (n + 15) (o 20) [bookD cs fs] S = some (.tup ((linkL cs fs).map tri), S) := by
  rw [run_eq h20 rfl]
  have n6 := ok.n6
  have l36 := linkAll_length cs fs n6
  have c6 := check_spec B (n + 1) cs fs S ok
  have e0 : ∀ σ, ev (cal P (run P (n + 14))) (.var 0) σ S = some (bookD cs fs, S) → evs (cal P (run P (n + 14))) [(.idx (.var 0) (.cst (.int 0)))] σ S = some ([.tup (cs.map .str)], S) := fun σ h => by
    refine evs_1 ?_
    rw [ev, h]
    unfold bookD
    (simp (decide := true) [exs, ex, ev, evs, evo, evc, bindT, bindL, getV, seqOf, de_str, de_int, de_bl, de_non, de_tup, de_lst, de_dic, de_inp, eqD_str, eqD_int, eqD_bl, bin_eq, bin_ne, bin_inn_tup, bin_inn_lst, bin_notin_tup, bin_notin_lst, bin_inn_str, bin_notin_str, bin_add_int, bin_sub_int, bin_add_tup, bin_add_lst, bin_lt_int, bin_gt_int, bin_le_int, bin_ge_int, bin_band, bin_bor, bin_shl, bin_shr, bin_mod, bin_fdiv, bin_mul_int, bin_mul_lst, bin_mul_tup, un_not, un_inv, idx_tup, idx_lst, idx_str, idx_dic, slc_tup, slc_lst, slc_inp, prim_len_tup, prim_len_lst, prim_len_str, prim_int_int, prim_int_bl, prim_tuple_lst, prim_tuple_tup, prim_list_lst, prim_list_tup, prim_all, prim_any, prim_sum, prim_max2, prim_sorted, prim_lr, prim_abs, atI_0, atI_1, atI_2, cut_from1, items_tup, items_lst, items_rng1, items_enum_tup, items_zip_tup, mk_f, mk_t, LIM, cal_fn, cal_W, cal_meth, cal_init, guard_nil, guard_int, guard_tup, guard_lst])
  have c1 : ev (cal P (run P (n + 14))) (.comp2 false (.tup [(.var 2), (.var 3), (.call (o 19) [(.var 0), (.var 2), (.var 3)])]) (.name 2) .seq [(.idx (.var 0) (.cst (.int 0)))] (.name 3) .seq [(.idx (.var 0) (.cst (.int 0)))]) [some (bookD cs fs), none, none, none, none] S = some (.lst ((linkAll cs fs).map tri), S) := by
    rw [ev, e0 _ rfl]
    simp only [Option.bind_some, items_tup]
    rw [compL_flatc D.str (fun a => cs.map fun b => tri (a, b, linkS cs fs a b)) rfl]
    · simp only [Option.bind_some, mk_f]
      have e : (cs.flatMap fun a => cs.map fun b => tri (a, b, linkS cs fs a b)) = (linkAll cs fs).map tri := by
        unfold linkAll
        rw [List.map_flatMap]
        congr 1
        funext a
        rw [List.map_map]
        rfl
      rw [e, List.length_map, if_pos (by unfold LIM; omega)]
    · intro a ha
      show ((bindT (.name 2) (.str a) (clr [3] [some (bookD cs fs), none, none, none, none])).bind fun σ' => _) = _
      rw [show bindT (.name 2) (.str a) (clr [3] [some (bookD cs fs), none, none, none, none]) = some [some (bookD cs fs), none, some (.str a), none, none] from rfl]
      simp only [Option.bind_some]
      rw [e0 _ rfl]
      simp only [Option.bind_some, items_tup]
      rw [compL_mapc D.str (fun b => tri (a, b, linkS cs fs a b)) rfl]
      intro b hb
      have el := link_spec B h9 h19 n cs fs S ok a b ha hb
      simp only [bindT, List.set_cons_zero, List.set_cons_succ, Option.bind_some, ev, evs, getV, List.getElem?_cons_zero, List.getElem?_cons_succ, Option.join_some, Option.map_some, cal_fn, el]
      rfl
  have c2 : ev (cal P (run P (n + 14))) (.comp false (.var 4) (.name 4) .seq [(.var 1)] [(.b2 .ne (.idx (.var 4) (.cst (.int 2))) (.cst (.str "none")))]) [some (bookD cs fs), some (.lst ((linkAll cs fs).map tri)), none, none, none] S = some (.lst ((linkL cs fs).map tri), S) := by
    rw [ev_comp (ds := [.lst ((linkAll cs fs).map tri)]) (S1 := S) (xs := (linkAll cs fs).map tri) rfl rfl, compL_filterc tri (fun p => !decide (p.2.2 = "none")) tri rfl]
    · simp only [Option.bind_some, mk_f, List.length_map]
      rw [if_pos (Nat.le_trans (List.length_filter_le _ _) (by unfold LIM; omega))]
      rfl
    · rintro ⟨a, b, k⟩ _
      simp only [tri]
      by_cases z : k = "none" <;> (simp (decide := true) [exs, ex, ev, evs, evo, evc, bindT, bindL, getV, seqOf, de_str, de_int, de_bl, de_non, de_tup, de_lst, de_dic, de_inp, eqD_str, eqD_int, eqD_bl, bin_eq, bin_ne, bin_inn_tup, bin_inn_lst, bin_notin_tup, bin_notin_lst, bin_inn_str, bin_notin_str, bin_add_int, bin_sub_int, bin_add_tup, bin_add_lst, bin_lt_int, bin_gt_int, bin_le_int, bin_ge_int, bin_band, bin_bor, bin_shl, bin_shr, bin_mod, bin_fdiv, bin_mul_int, bin_mul_lst, bin_mul_tup, un_not, un_inv, idx_tup, idx_lst, idx_str, idx_dic, slc_tup, slc_lst, slc_inp, prim_len_tup, prim_len_lst, prim_len_str, prim_int_int, prim_int_bl, prim_tuple_lst, prim_tuple_tup, prim_list_lst, prim_list_tup, prim_all, prim_any, prim_sum, prim_max2, prim_sorted, prim_lr, prim_abs, atI_0, atI_1, atI_2, cut_from1, items_tup, items_lst, items_rng1, items_enum_tup, items_zip_tup, mk_f, mk_t, LIM, cal_fn, cal_W, cal_meth, cal_init, guard_nil, guard_int, guard_tup, guard_lst, z])
  have key : (exs (cal P (run P (n + 14))) (b20 o).body ([bookD cs fs].map some ++ List.replicate (b20 o).nloc none) S) = some (.rt (.tup ((linkL cs fs).map tri)), [some (bookD cs fs), some (.lst ((linkAll cs fs).map tri)), none, none, none], S) := by
    show exs (cal P (run P (n + 14))) [_, _, _] [some (bookD cs fs), none, none, none, none] S = _
    rw [exs_nx (ex_expr (d := .non) (S1 := S) (ev_call (evs_1 rfl) c6)), exs_nx (ex_asg c1 rfl)]
    exact exs_rt (ex_ret (ev_prim (evs_1 c2) rfl))
  rw [key, Option.bind_some]
  refine leaveF_py0 ?_
  rw [D.isPy]
  exact isPys_of fun x hx => by obtain ⟨p, _, rfl⟩ := List.mem_map.mp hx; rfl
def everyN (cs : List Str) (fs : List Fm) : List Nat := (List.range (2 ^ cs.length)).filter fun c => (fs.map fun f => f.val (asg cs c)).all id
def noneN (cs : List Str) (fs : List Fm) : List Nat := (List.range (2 ^ cs.length)).filter fun c => !(fs.map fun f => f.val (asg cs c)).any id
def natsD (l : List Nat) : D := .lst (l.map fun c => .int ((c : Nat) : Int))
theorem joins_spec (B : Base P o cc) (h9 : P.funs[o 9]? = some b9) (h21 : P.funs[o 21]? = some (b21 o cc)) (n : Nat) (cs : List Str) (fs : List Fm) (S : Store) (ok : BookOk cs fs) :
    run P (n + 14) (o 21) [bookD cs fs] S = some (.tup [.int ((everyN cs fs).length : Nat), .int ((noneN cs fs).length : Nat)], S) := by
  rw [run_eq h21 rfl]
  have n6 := ok.n6
  have len := ok.len
  have p6 : 2 ^ cs.length ≤ 64 := Nat.le_trans (Nat.pow_le_pow_right (by omega) n6) (by decide)
  have c6 := check_spec B n cs fs S ok
  generalize hS1 : S ++ [Cell.ins cc (objF cs fs)] = S1
  have hSr : S1[S.length]? = some (.ins cc (objF cs fs)) := by rw [← hS1]; exact app_get S _
  have c9 : ev (cal P (run P (n + 13))) (.new cc [(.var 0)]) [some (bookD cs fs), none, none, none, none, none] S = some (.ref S.length, S1) := by rw [← hS1]; exact new_spec B h9 n cs fs S ok rfl
  have fld : ∀ (m : Str) (d : D) (σ : Ev), lookF m (objF cs fs) = some d → ev (cal P (run P (n + 13))) (.var 1) σ S1 = some (.ref S.length, S1) → evs (cal P (run P (n + 13))) [(.fld (.var 1) m)] σ S1 = some ([d], S1) := fun m d σ h h1 => by
    refine evs_1 ?_
    rw [ev, h1]
    simp only [Option.bind_some, hSr, h, Option.map_some]
  have inner : ∀ (c : Nat) (x y : Option D), c < 2 ^ cs.length → ev (cal P (run P (n + 13))) (.comp false (.idx (.var 5) (.var 4)) (.name 5) .seq [(.fld (.var 1) "truths")] []) [some (bookD cs fs), some (.ref S.length), x, y, some (.int ((c : Nat) : Int)), none] S1 = some (.lst (fs.map fun f => .bl (f.val (asg cs c))), S1) := fun c x y hc => by
    rw [ev_comp (ds := [.lst (fs.map (truthD cs))]) (S1 := S1) (xs := fs.map (truthD cs)) (fld _ _ _ rfl rfl) rfl, compL_mapc (truthD cs) (fun f => D.bl (f.val (asg cs c))) rfl]
    · simp only [Option.bind_some, mk_f, List.length_map]
      rw [if_pos (by unfold LIM; omega)]
    · intro f _
      have t1 : ∀ S, idx (deref S (truthD cs f)) (.int (c : Nat)) = some (.bl (f.val (asg cs c))) := fun S => truthD_at cs f c hc
      simp only [bindT, List.set_cons_zero, List.set_cons_succ, Option.bind_some, evc, if_true, ev, getV, List.getElem?_cons_zero, List.getElem?_cons_succ, Option.join_some, Option.map_some, t1]
  have sel : ∀ (cond : E) (p : Nat → Bool) (x y : Option D), (∀ c, c < 2 ^ cs.length → ev (cal P (run P (n + 13))) cond [some (bookD cs fs), some (.ref S.length), x, y, some (.int ((c : Nat) : Int)), none] S1 = some (.bl (p c), S1)) →
      ev (cal P (run P (n + 13))) (.comp false (.var 4) (.name 4) .seq [(.fld (.var 1) "choices")] [cond]) [some (bookD cs fs), some (.ref S.length), x, y, none, none] S1 = some (natsD ((List.range (2 ^ cs.length)).filter p), S1) := fun cond p x y h => by
    rw [ev_comp (ds := [choicesD cs.length]) (S1 := S1) (xs := (List.range (2 ^ cs.length)).map fun i => D.int ((i : Nat) : Int)) (fld _ _ _ rfl rfl) (by unfold choicesD; rw [items_lst, rng0]),
      compL_filterc (fun c : Nat => D.int ((c : Nat) : Int)) p (fun c => D.int ((c : Nat) : Int)) rfl]
    · simp only [Option.bind_some, mk_f, List.length_map]
      have l1 := List.length_filter_le p (List.range (2 ^ cs.length))
      rw [List.length_range] at l1
      rw [if_pos (by unfold LIM; omega)]
      rfl
    · intro c hc
      rw [List.mem_range] at hc
      simp only [bindT, List.set_cons_zero, List.set_cons_succ, Option.bind_some, evc_1 (h c hc)]
      cases p c <;> rfl
  have k1 := sel (.prim .all [(.comp false (.idx (.var 5) (.var 4)) (.name 5) .seq [(.fld (.var 1) "truths")] [])]) (fun c => (fs.map fun f => f.val (asg cs c)).all id) none none (fun c hc => ev_prim (evs_1 (inner c _ _ hc)) (by show prim .all [.lst _] = _; rw [prim_all, boolsOf_map]; rfl))
  have k2 := sel (.u1 .not (.prim .any [(.comp false (.idx (.var 5) (.var 4)) (.name 5) .seq [(.fld (.var 1) "truths")] [])])) (fun c => !(fs.map fun f => f.val (asg cs c)).any id) (some (natsD (everyN cs fs))) none (fun c hc => by
    rw [ev, ev_prim (evs_1 (inner c _ _ hc)) (by show prim .any [.lst _] = _; rw [prim_any, boolsOf_map]; rfl)]
    rfl)
  have key : (exs (cal P (run P (n + 13))) (b21 o cc).body ([bookD cs fs].map some ++ List.replicate (b21 o cc).nloc none) S) = some (.rt (.tup [.int ((everyN cs fs).length : Nat), .int ((noneN cs fs).length : Nat)]), [some (bookD cs fs), some (.ref S.length), some (natsD (everyN cs fs)), some (natsD (noneN cs fs)), none, none], S1) := by
    show exs (cal P (run P (n + 13))) [_, _, _, _, _] [some (bookD cs fs), none, none, none, none, none] S = _
    rw [exs_nx (ex_expr (d := .non) (S1 := S) (ev_call (evs_1 rfl) c6)), exs_nx (σ' := [some (bookD cs fs), some (.ref S.length), none, none, none, none]) (ex_asg c9 rfl)]
    rw [exs_nx (σ' := [some (bookD cs fs), some (.ref S.length), some (natsD (everyN cs fs)), none, none, none]) (ex_asg k1 rfl), exs_nx (σ' := [some (bookD cs fs), some (.ref S.length), some (natsD (everyN cs fs)), some (natsD (noneN cs fs)), none, none]) (ex_asg k2 rfl)]
    refine exs_rt (ex_ret ?_)
    unfold natsD
    (simp (decide := true) [exs, ex, ev, evs, evo, evc, bindT, bindL, getV, seqOf, de_str, de_int, de_bl, de_non, de_tup, de_lst, de_dic, de_inp, eqD_str, eqD_int, eqD_bl, bin_eq, bin_ne, bin_inn_tup, bin_inn_lst, bin_notin_tup, bin_notin_lst, bin_inn_str, bin_notin_str, bin_add_int, bin_sub_int, bin_add_tup, bin_add_lst, bin_lt_int, bin_gt_int, bin_le_int, bin_ge_int, bin_band, bin_bor, bin_shl, bin_shr, bin_mod, bin_fdiv, bin_mul_int, bin_mul_lst, bin_mul_tup, un_not, un_inv, idx_tup, idx_lst, idx_str, idx_dic, slc_tup, slc_lst, slc_inp, prim_len_tup, prim_len_lst, prim_len_str, prim_int_int, prim_int_bl, prim_tuple_lst, prim_tuple_tup, prim_list_lst, prim_list_tup, prim_all, prim_any, prim_sum, prim_max2, prim_sorted, prim_lr, prim_abs, atI_0, atI_1, atI_2, cut_from1, items_tup, items_lst, items_rng1, items_enum_tup, items_zip_tup, mk_f, mk_t, LIM, cal_fn, cal_W, cal_meth, cal_init, guard_nil, guard_int, guard_tup, guard_lst])
  rw [key, ← hS1, Option.bind_some]
  exact leaveF_py rfl
end
end Fw
end
section
set_option Elab.async false
set_option linter.all false
set_option autoImplicit false
set_option maxRecDepth 10000
set_option maxHeartbeats 1000000
/-! CM1: what labels allow: the plain reading of the labels that conditions give. -/
namespace Fw
open PySem
theorem snoc_ind {α : Type} {Q : List α → Prop} (h0 : Q []) (h1 : ∀ l a, Q l → Q (l ++ [a])) : ∀ l, Q l := by
  intro l
  have h : ∀ r : List α, Q r.reverse := by
    intro r
    induction r with
    | nil => exact h0
    | cons a r ih => rw [List.reverse_cons]; exact h1 _ _ ih
  have := h l.reverse
  rwa [List.reverse_reverse] at this
/-- a number by its bits -/
def ofB (b : Nat → Bool) : Nat → Nat
  | 0 => 0
  | n + 1 => 2 ^ n * (if b n then 1 else 0) + ofB b n
theorem ofB_lt (b : Nat → Bool) : ∀ n, ofB b n < 2 ^ n
  | 0 => by simp [ofB]
  | n + 1 => by
    have := ofB_lt b n
    unfold ofB
    rw [Nat.pow_succ]
    cases b n <;> simp <;> omega
theorem ofB_bit (b : Nat → Bool) (i : Nat) : ∀ n, (ofB b n).testBit i = (decide (i < n) && b i)
  | 0 => by simp [ofB]
  | n + 1 => by
    have ih := ofB_bit b i n
    have hl := ofB_lt b n
    unfold ofB
    cases e : b n with
    | false =>
      simp only [Bool.false_eq_true, if_false, Nat.mul_zero, Nat.zero_add, ih]
      by_cases h : i < n
      · simp [h, Nat.lt_succ_of_lt h]
      · by_cases h2 : i = n
        · subst h2; simp [e]
        · have : ¬ i < n + 1 := by omega
          simp [h, this]
    | true =>
      simp only [if_true, Nat.mul_one]
      by_cases h : i < n
      · rw [Nat.testBit_two_pow_add_gt h, ih]; simp [h, Nat.lt_succ_of_lt h]
      · by_cases h2 : i = n
        · subst h2
          rw [Nat.testBit_two_pow_add_eq, ih]; simp [e]
        · have : ¬ i < n + 1 := by omega
          simp only [this, decide_false, Bool.false_and]
          apply Nat.testBit_lt_two_pow
          have : 2 ^ (n + 1) ≤ 2 ^ i := Nat.pow_le_pow_right (by omega) (by omega)
          rw [Nat.pow_succ] at this
          omega
theorem ofB_self {c n : Nat} (h : c < 2 ^ n) : ofB (fun i => c.testBit i) n = c := by
  apply Nat.eq_of_testBit_eq
  intro i
  rw [ofB_bit]
  by_cases hi : i < n
  · simp [hi]
  · have : c.testBit i = false := Nat.testBit_lt_two_pow (Nat.lt_of_lt_of_le h (Nat.pow_le_pow_right (by omega) (by omega)))
    simp [hi, this]
theorem bitsOf_ofB (l : Lb) (L : List Lb) : bitsOf l L = ofB (fun i => decide (L[i]? = some l)) L.length := by
  have key : ∀ (b : Nat → Bool) (b' : Nat → Bool) (n : Nat), (∀ i < n, b i = b' i) → ofB b n = ofB b' n := by
    intro b b' n
    induction n with
    | zero => intro _; rfl
    | succ n ih =>
      intro h
      unfold ofB
      rw [h n (Nat.lt_succ_self _), ih fun i hi => h i (Nat.lt_succ_of_lt hi)]
  refine snoc_ind (Q := fun L => bitsOf l L = ofB (fun i => decide (L[i]? = some l)) L.length) rfl ?_ L
  intro L a ih
  have e1 : bitsOf l (L ++ [a]) = bitsOf l L + (if a = l then 2 ^ L.length else 0) := by
    unfold bitsOf
    rw [List.zipIdx_append, List.filter_append, List.map_append, List.sum_append]
    congr 1
    by_cases h : a = l <;> simp [h]
  rw [e1, ih, List.length_append, List.length_singleton]
  conv => rhs; unfold ofB
  rw [key (fun i => decide ((L ++ [a])[i]? = some l)) (fun i => decide (L[i]? = some l)) L.length (fun i hi => by
    rw [List.getElem?_append_left hi])]
  by_cases h : a = l <;> simp [h] <;> omega
theorem and_not_nat (c o : Nat) : PySem.Builtin.bitAnd (c : Int) (PySem.Builtin.bitNot (o : Int)) = ((c ^^^ (c &&& o) : Nat) : Int) := by
  rw [PyProof.Rows.bitAnd_not, band_nat]
  have e1 : (c &&& o) ||| (c ^^^ (c &&& o)) = c := by
    apply Nat.eq_of_testBit_eq; intro i
    simp only [Nat.testBit_or, Nat.testBit_and, Nat.testBit_xor]
    cases c.testBit i <;> cases o.testBit i <;> rfl
  have e2 : (c &&& o) &&& (c ^^^ (c &&& o)) = 0 := by
    apply Nat.eq_of_testBit_eq; intro i
    simp only [Nat.testBit_and, Nat.testBit_xor, Nat.zero_testBit]
    cases c.testBit i <;> cases o.testBit i <;> rfl
  have e3 := PyProof.Rows.nat_or_add_and (c &&& o) (c ^^^ (c &&& o))
  rw [e1, e2] at e3
  omega
theorem allowed_mem {n : Nat} {L : List Lb} (hl : L.length = n) {c : Nat} : c ∈ allowedN n L ↔ c < 2 ^ n ∧ ∀ i < n, (L[i]? = some .inn → c.testBit i = true) ∧ (L[i]? = some .out → c.testBit i = false) := by
  unfold allowedN
  rw [List.mem_filter, List.mem_range, decide_eq_true_eq, and_not_nat]
  have hb : ∀ l i, (bitsOf l L).testBit i = (decide (i < n) && decide (L[i]? = some l)) := fun l i => by rw [bitsOf_ofB, ofB_bit, hl]
  constructor
  · rintro ⟨h1, h2⟩
    refine ⟨h1, fun i hi => ?_⟩
    have h3 : c ^^^ (c &&& bitsOf .opn L) = bitsOf .inn L := by omega
    have h4 := congrArg (fun x => Nat.testBit x i) h3
    simp only [Nat.testBit_xor, Nat.testBit_and, hb, hi, decide_true, Bool.true_and] at h4
    constructor
    · intro e; rw [e] at h4; simpa using h4
    · intro e; rw [e] at h4; simpa using h4
  · rintro ⟨h1, h2⟩
    refine ⟨h1, ?_⟩
    congr 1
    apply Nat.eq_of_testBit_eq
    intro i
    simp only [Nat.testBit_xor, Nat.testBit_and, hb]
    by_cases hi : i < n
    · obtain ⟨a, b⟩ := h2 i hi
      obtain ⟨l, e⟩ : ∃ l, L[i]? = some l := ⟨L[i], List.getElem?_eq_getElem (by omega)⟩
      rw [e] at a b
      cases l with
      | inn => simp [e, hi, a rfl]
      | opn => simp [e, hi]
      | out => simp [e, hi, b rfl]
    · have : c.testBit i = false := Nat.testBit_lt_two_pow (Nat.lt_of_lt_of_le h1 (Nat.pow_le_pow_right (by omega) (by omega)))
      simp [hi, this]
/-- the label of a claim -/
def lb (cs : List Str) (L : List Lb) (s : Str) : Lb := (L[cs.idxOf s]?).getD .opn
/-- a choice that labels allow -/
def Comp (cs : List Str) (L : List Lb) (a : Str → Bool) : Prop := ∀ s ∈ cs, (lb cs L s = .inn → a s = true) ∧ (lb cs L s = .out → a s = false)
mutual
theorem Fm.val_congr {cs : List Str} {a b : Str → Bool} (h : ∀ s ∈ cs, a s = b s) : ∀ f : Fm, f.wf cs = true → f.val a = f.val b
  | .tt, _ => rfl
  | .ff, _ => rfl
  | .cl c, hw => by simp only [Fm.wf, decide_eq_true_eq] at hw; simp only [Fm.val, h c hw]
  | .nt f, hw => by simp only [Fm.wf] at hw; simp only [Fm.val, Fm.val_congr h f hw]
  | .nn k fs, hw => by simp only [Fm.wf, Bool.and_eq_true] at hw; simp only [Fm.val, Fm.vals_congr h fs hw.2]
theorem Fm.vals_congr {cs : List Str} {a b : Str → Bool} (h : ∀ s ∈ cs, a s = b s) : ∀ fs : List Fm, Fm.wfs cs fs = true → Fm.vals a fs = Fm.vals b fs
  | [], _ => rfl
  | f :: fs, hw => by simp only [Fm.wfs, Bool.and_eq_true] at hw; simp only [Fm.vals, Fm.val_congr h f hw.1, Fm.vals_congr h fs hw.2]
end
section
variable {cs : List Str} {L : List Lb} {f : Fm}
theorem asg_comp (hl : L.length = cs.length) {c : Nat} (h : c ∈ allowedN cs.length L) : Comp cs L (asg cs c) := by
  intro s hs
  have hi := List.idxOf_lt_length_of_mem hs
  obtain ⟨a, b⟩ := ((allowed_mem hl).mp h).2 _ hi
  obtain ⟨l, e⟩ : ∃ l, L[cs.idxOf s]? = some l := ⟨L[cs.idxOf s], List.getElem?_eq_getElem (by omega)⟩
  unfold lb asg
  rw [e] at a b ⊢
  simp only [Option.getD_some]
  exact ⟨fun q => a (by rw [q]), fun q => b (by rw [q])⟩
def numA (cs : List Str) (a : Str → Bool) : Nat := ofB (fun i => a ((cs[i]?).getD ⟨#[]⟩)) cs.length
theorem numA_lt (cs : List Str) (a : Str → Bool) : numA cs a < 2 ^ cs.length := ofB_lt _ _
theorem numA_asg (a : Str → Bool) : ∀ s ∈ cs, asg cs (numA cs a) s = a s := by
  intro s hs
  have hi := List.idxOf_lt_length_of_mem hs
  unfold asg numA
  rw [ofB_bit]
  simp only [hi, decide_true, Bool.true_and]
  rw [List.getElem?_eq_getElem hi, Option.getD_some, List.getElem_idxOf]
theorem numA_allowed (hnd : cs.Nodup) (hl : L.length = cs.length) {a : Str → Bool} (h : Comp cs L a) : numA cs a ∈ allowedN cs.length L := by
  rw [allowed_mem hl]
  refine ⟨numA_lt cs a, fun i hi => ?_⟩
  have hm : cs[i] ∈ cs := List.getElem_mem hi
  have hx : cs.idxOf cs[i] = i := hnd.idxOf_getElem i hi
  have e := numA_asg a cs[i] hm
  unfold asg at e
  rw [hx] at e
  have h2 := h cs[i] hm
  unfold lb at h2
  rw [hx] at h2
  rw [e]
  exact ⟨fun q => h2.1 (by rw [q]; rfl), fun q => h2.2 (by rw [q]; rfl)⟩
theorem comp_inh (cs : List Str) (L : List Lb) : Comp cs L (fun s => decide (lb cs L s = .inn)) := by
  intro s _
  constructor
  · intro e; simp [e]
  · intro e; simp [e]
theorem allowed_ne (hnd : cs.Nodup) (hl : L.length = cs.length) : ∃ c, c ∈ allowedN cs.length L := ⟨_, numA_allowed hnd hl (comp_inh cs L)⟩
theorem gamL_inn {b : List Bool} : gamL b = .inn ↔ ∀ x ∈ b, x = true := by
  unfold gamL
  by_cases h : b.all id = true
  · rw [if_pos h]; simp only [true_iff]; intro x hx; exact List.all_eq_true.mp h x hx
  · rw [if_neg h]
    constructor
    · intro e; split at e <;> cases e
    · intro e; exact absurd (List.all_eq_true.mpr fun x hx => e x hx) h
theorem gamL_out {b : List Bool} (hne : ∃ x, x ∈ b) : gamL b = .out ↔ ∀ x ∈ b, x = false := by
  unfold gamL
  obtain ⟨y, hy⟩ := hne
  constructor
  · intro e x hx
    split at e
    · cases e
    · split at e
      · cases e
      · rename_i h
        cases hx' : x with
        | false => rfl
        | true => exact absurd (List.any_eq_true.mpr ⟨x, hx, by rw [hx']; rfl⟩) h
  · intro e
    have h1 : ¬ b.all id = true := fun w => by have := List.all_eq_true.mp w y hy; rw [e y hy] at this; cases this
    have h2 : ¬ b.any id = true := fun w => by
      obtain ⟨x, hx, q⟩ := List.any_eq_true.mp w
      rw [e x hx] at q; cases q
    rw [if_neg h1, if_neg h2]
theorem gam_inn (hnd : cs.Nodup) (hl : L.length = cs.length) (hw : f.wf cs = true) : gam cs cs.length L f = .inn ↔ ∀ a, Comp cs L a → f.val a = true := by
  unfold gam
  rw [gamL_inn]
  constructor
  · intro h a ha
    rw [← Fm.val_congr (numA_asg a) f hw]
    exact h _ (List.mem_map.mpr ⟨_, numA_allowed hnd hl ha, rfl⟩)
  · intro h x hx
    obtain ⟨c, hc, rfl⟩ := List.mem_map.mp hx
    exact h _ (asg_comp hl hc)
theorem gam_out (hnd : cs.Nodup) (hl : L.length = cs.length) (hw : f.wf cs = true) : gam cs cs.length L f = .out ↔ ∀ a, Comp cs L a → f.val a = false := by
  unfold gam
  rw [gamL_out (by obtain ⟨c, hc⟩ := allowed_ne hnd hl; exact ⟨_, List.mem_map.mpr ⟨c, hc, rfl⟩⟩)]
  constructor
  · intro h a ha
    rw [← Fm.val_congr (numA_asg a) f hw]
    exact h _ (List.mem_map.mpr ⟨_, numA_allowed hnd hl ha, rfl⟩)
  · intro h x hx
    obtain ⟨c, hc, rfl⟩ := List.mem_map.mp hx
    exact h _ (asg_comp hl hc)
end
end Fw
end
section
set_option Elab.async false
set_option linter.all false
set_option autoImplicit false
set_option maxRecDepth 10000
set_option maxHeartbeats 2000000
/-! Pl15: the draws of a law. -/
namespace Fw
open PySem
def stC (nums : List Int) (c : Nat) : Cell := .lst [.lst (nums.map .int), .int (c : Nat)]
def l22 : FD := ⟨2, 1, [
  .setI (.var 0) (.cst (.int 1)) (.b2 .add (.idx (.var 0) (.cst (.int 1))) (.cst (.int 1))),
  .asg (.name 2) (.b2 .fdiv (.idx (.var 0) (.cst (.int 1))) (.prim .len [(.idx (.var 0) (.cst (.int 0)))])),
  .ret (.b2 .mod (.prim .int [(.b2 .add (.b2 .add (.idx (.idx (.var 0) (.cst (.int 0))) (.b2 .mod (.idx (.var 0) (.cst (.int 1))) (.prim .len [(.idx (.var 0) (.cst (.int 0)))]))) (.b2 .mul (.var 2) (.cst (.int 389)))) (.b2 .mul (.b2 .mul (.idx (.var 0) (.cst (.int 1))) (.var 2)) (.cst (.int 17))))]) (.var 1))]⟩
theorem ints_py (nums : List Int) : D.isPys (nums.map .int) = true := isPys_of fun x hx => by obtain ⟨i, _, rfl⟩ := List.mem_map.mp hx; rfl
theorem stC_ok (nums : List Int) (c b : Nat) : Cell.okR b (stC nums c) = true := by
  unfold stC
  show D.okRs b _ = true
  rw [D.okRs, D.okR, okR_py.2 _ _ (ints_py nums)]
  rfl
theorem keepOk_set (b : Nat) (c' : Cell) (h : Cell.okR b c' = true) : ∀ (S T : Store) (r : Nat), keepOk b S (S.set r c' ++ T) = true
  | [], T, r => rfl
  | a :: S, T, 0 => by
    show ((Cell.same a c' || Cell.okR b c') && keepOk b S (S ++ T)) = true
    rw [h, keepOk_app b S T]; simp
  | a :: S, T, r + 1 => by
    show ((Cell.same a a || Cell.okR b a) && keepOk b S (S.set r c' ++ T)) = true
    rw [Cell.same_refl, keepOk_set b c' h S T r]
    rfl
theorem leaveF_set {S T : Store} {d : D} {σ : Ev} {r : Nat} {c' : Cell} (hc : ∀ b, Cell.okR b c' = true) (h : d.isPy = true) : leaveF S (.rt d, σ, S.set r c' ++ T) = some (d, S.set r c') := by
  have hu : unref S.length (S.set r c' ++ T) d = d := by cases d <;> first | rfl | (simp [D.isPy] at h)
  unfold leaveF
  simp only [Option.bind_some, leave, hu, okR_py.1 d S.length h, if_true, keepOk_set _ _ (hc _)]
  have e : (S.set r c' ++ T).take S.length = S.set r c' := by
    have e1 : S.length = (S.set r c').length := by rw [List.length_set]
    rw [e1, List.take_left']
    rfl
  rw [e]
theorem leaveF_set0 {S : Store} {d : D} {σ : Ev} {r : Nat} {c' : Cell} (hc : ∀ b, Cell.okR b c' = true) (h : d.isPy = true) : leaveF S (.rt d, σ, S.set r c') = some (d, S.set r c') := by
  have := leaveF_set (S := S) (T := []) (σ := σ) (r := r) hc h
  rwa [List.append_nil] at this
theorem atI_in {α : Type} (l : List α) (k : Int) (h0 : 0 ≤ k) (h1 : k < l.length) : ∃ x, L2.atI l k = some x ∧ x ∈ l := by
  obtain ⟨n, rfl⟩ := Int.eq_ofNat_of_zero_le h0
  rw [atI_nat]
  have : n < l.length := by simp at h1; omega
  exact ⟨l[n], List.getElem?_eq_getElem this, List.getElem_mem this⟩
theorem bin_fdivN (x : Int) (n : Nat) (h0 : n ≠ 0) (h : n ≤ 100000) : bin .fdiv (.int x) (.int (n : Nat)) = some (.int (x.fdiv n)) := by
  rw [bin_fdiv, if_pos]
  rw [Bool.and_eq_true, decide_eq_true_eq, decide_eq_true_eq]
  exact ⟨by omega, by omega⟩
theorem bin_mulS (x y : Int) (h0 : -1000000000000 ≤ y) (h1 : y ≤ 1000000000000) : bin .mul (.int x) (.int y) = some (.int (x * y)) := by
  rw [bin_mul_int, if_pos]
  have e64 : (2 : Int) ^ 64 = 18446744073709551616 := by rfl
  rw [Bool.or_eq_true]; right; rw [Bool.and_eq_true, decide_eq_true_eq, decide_eq_true_eq, e64]
  exact ⟨by omega, by omega⟩
theorem bin_mulT (x y : Int) (h0 : -1000000000000 ≤ x) (h1 : x ≤ 1000000000000) : bin .mul (.int x) (.int y) = some (.int (x * y)) := by
  rw [bin_mul_int, if_pos]
  have e64 : (2 : Int) ^ 64 = 18446744073709551616 := by rfl
  rw [Bool.or_eq_true]; left; rw [Bool.and_eq_true, decide_eq_true_eq, decide_eq_true_eq, e64]
  exact ⟨by omega, by omega⟩
theorem bin_mulN (a : Nat) (y : Int) (h : a ≤ 1000000000000) : bin .mul (.int (a : Nat)) (.int y) = some (.int (a * y)) := bin_mulT _ _ (by omega) (by omega)
theorem ev_b2i {C : Cal} {e f : E} {σ : Ev} {S S1 S2 : Store} {op : B2} {i j : Int} {z : D} (h1 : ev C e σ S = some (.int i, S1)) (h2 : ev C f σ S1 = some (.int j, S2)) (h3 : bin op (.int i) (.int j) = some z) : ev C (.b2 op e f) σ S = some (z, S2) := by
  rw [ev, h1]
  simp only [Option.bind_some, h2, de_int, h3, Option.map_some]
theorem ev_imod {C : Cal} {e f : E} {σ : Ev} {S : Store} {z : Int} {m : Nat} (h1 : ev C e σ S = some (.int z, S)) (h2 : ev C f σ S = some (.int m, S)) (hm : 0 < m) : ev C (.b2 .mod (.prim .int [e]) f) σ S = some (.int (z.fmod m), S) := by
  have hm' : decide (((m : Nat) : Int) ≠ 0) = true := decide_eq_true (by omega)
  rw [ev, ev_prim (evs_1 h1) (prim_int_int z)]
  simp only [Option.bind_some, h2, de_int, bin_mod, hm', if_true, Option.map_some]
structure StOk (nums : List Int) : Prop where
  pos : nums ≠ []
  len : nums.length ≤ 100000
theorem next1 {P : Prog} {i : Nat} (h : P.funs[i]? = some l22) (n r m c : Nat) (nums : List Int) (S : Store) (hn : StOk nums) (hc : c < 1000000000) (hm : 0 < m) (hS : S[r]? = some (stC nums c)) :
    ∃ v : Nat, v < m ∧ run P (n + 1) i [.ref r, .int m] S = some (.int v, S.set r (stC nums (c + 1))) := by
  have hr : r < S.length := by
    rcases Nat.lt_or_ge r S.length with h | h
    · exact h
    · rw [List.getElem?_eq_none h] at hS; cases hS
  have lp : 0 < nums.length := List.length_pos_iff.mpr hn.pos
  have ll := hn.len
  generalize hS1 : S.set r (stC nums (c + 1)) = S1
  have hS1r : S1[r]? = some (stC nums (c + 1)) := by rw [← hS1, List.getElem?_set_self hr]
  have d1 : deref S (.ref r) = .lst [.lst (nums.map .int), .int (c : Nat)] := by simp [deref, hS, stC]
  have d2 : deref S1 (.ref r) = .lst [.lst (nums.map .int), .int ((c + 1 : Nat) : Int)] := by simp [deref, hS1r, stC]
  have hl : ((nums.length : Nat) : Int) ≠ 0 := by omega
  obtain ⟨t, ht⟩ : ∃ t : Int, ((c + 1 : Nat) : Int).fdiv (nums.length : Nat) = t := ⟨_, rfl⟩
  obtain ⟨k, hk⟩ : ∃ k : Int, ((c + 1 : Nat) : Int).fmod (nums.length : Nat) = k := ⟨_, rfl⟩
  have k0 : 0 ≤ k := by rw [← hk]; exact Int.fmod_nonneg_of_pos _ (by omega)
  have k1 : k < (nums.length : Nat) := by rw [← hk]; exact Int.fmod_lt_of_pos _ (by omega)
  obtain ⟨x, hx, _⟩ := atI_in (nums.map D.int) k k0 (by rw [List.length_map]; exact k1)
  obtain ⟨y, hy⟩ : ∃ y : Int, x = .int y := by
    obtain ⟨y, _, rfl⟩ := List.mem_map.mp ‹_›
    exact ⟨y, rfl⟩
  subst hy
  obtain ⟨z, hz⟩ : ∃ z : Int, y + t * 389 + ((c + 1 : Nat) : Int) * t * 17 = z := ⟨_, rfl⟩
  have v0 : 0 ≤ z.fmod m := Int.fmod_nonneg_of_pos _ (by omega)
  have v1 : z.fmod m < m := Int.fmod_lt_of_pos _ (by omega)
  refine ⟨(z.fmod m).toNat, by omega, ?_⟩
  have hv : (((z.fmod m).toNat : Nat) : Int) = z.fmod m := Int.toNat_of_nonneg v0
  rw [run_eq h rfl, hv]
  have g1 : ex (cal P (run P n)) (.setI (.var 0) (.cst (.int 1)) (.b2 .add (.idx (.var 0) (.cst (.int 1))) (.cst (.int 1)))) [some (.ref r), some (.int m), none] S = some (.nx, [some (.ref r), some (.int m), none], S1) := by
    rw [ex]
    have e1 : ev (cal P (run P n)) (.b2 .add (.idx (.var 0) (.cst (.int 1))) (.cst (.int 1))) [some (.ref r), some (.int m), none] S = some (.int ((c + 1 : Nat) : Int), S) := by
      (simp (decide := true) [exs, ex, ev, evs, evo, evc, bindT, bindL, getV, seqOf, de_str, de_int, de_bl, de_non, de_tup, de_lst, de_dic, de_inp, eqD_str, eqD_int, eqD_bl, bin_eq, bin_ne, bin_inn_tup, bin_inn_lst, bin_notin_tup, bin_notin_lst, bin_inn_str, bin_notin_str, bin_add_int, bin_sub_int, bin_add_tup, bin_add_lst, bin_lt_int, bin_gt_int, bin_le_int, bin_ge_int, bin_band, bin_bor, bin_shl, bin_shr, bin_mod, bin_fdiv, bin_mul_int, bin_mul_lst, bin_mul_tup, un_not, un_inv, idx_tup, idx_lst, idx_str, idx_dic, slc_tup, slc_lst, slc_inp, prim_len_tup, prim_len_lst, prim_len_str, prim_int_int, prim_int_bl, prim_tuple_lst, prim_tuple_tup, prim_list_lst, prim_list_tup, prim_all, prim_any, prim_sum, prim_max2, prim_sorted, prim_lr, prim_abs, atI_0, atI_1, atI_2, cut_from1, items_tup, items_lst, items_rng1, items_enum_tup, items_zip_tup, mk_f, mk_t, LIM, cal_fn, cal_W, cal_meth, cal_init, guard_nil, guard_int, guard_tup, guard_lst, d1])
    rw [e1]
    simp only [Option.bind_some, ev, getV, List.getElem?_cons_zero, Option.join_some, Option.map_some, setI, hS, stC]
    rw [← hS1]
    rfl
  have i0 : ev (cal P (run P n)) (.idx (.var 0) (.cst (.int 0))) [some (.ref r), some (.int m), none] S1 = some (.lst (nums.map .int), S1) := by (simp (decide := true) [exs, ex, ev, evs, evo, evc, bindT, bindL, getV, seqOf, de_str, de_int, de_bl, de_non, de_tup, de_lst, de_dic, de_inp, eqD_str, eqD_int, eqD_bl, bin_eq, bin_ne, bin_inn_tup, bin_inn_lst, bin_notin_tup, bin_notin_lst, bin_inn_str, bin_notin_str, bin_add_int, bin_sub_int, bin_add_tup, bin_add_lst, bin_lt_int, bin_gt_int, bin_le_int, bin_ge_int, bin_band, bin_bor, bin_shl, bin_shr, bin_mod, bin_fdiv, bin_mul_int, bin_mul_lst, bin_mul_tup, un_not, un_inv, idx_tup, idx_lst, idx_str, idx_dic, slc_tup, slc_lst, slc_inp, prim_len_tup, prim_len_lst, prim_len_str, prim_int_int, prim_int_bl, prim_tuple_lst, prim_tuple_tup, prim_list_lst, prim_list_tup, prim_all, prim_any, prim_sum, prim_max2, prim_sorted, prim_lr, prim_abs, atI_0, atI_1, atI_2, cut_from1, items_tup, items_lst, items_rng1, items_enum_tup, items_zip_tup, mk_f, mk_t, LIM, cal_fn, cal_W, cal_meth, cal_init, guard_nil, guard_int, guard_tup, guard_lst, d2])
  have g2 : ex (cal P (run P n)) (.asg (.name 2) (.b2 .fdiv (.idx (.var 0) (.cst (.int 1))) (.prim .len [(.idx (.var 0) (.cst (.int 0)))]))) [some (.ref r), some (.int m), none] S1 = some (.nx, [some (.ref r), some (.int m), some (.int t)], S1) := by
    refine ex_asg (d := .int t) ?_ rfl
    rw [ev, show ev (cal P (run P n)) (.idx (.var 0) (.cst (.int 1))) [some (.ref r), some (.int m), none] S1 = some (.int ((c + 1 : Nat) : Int), S1) by (simp (decide := true) [exs, ex, ev, evs, evo, evc, bindT, bindL, getV, seqOf, de_str, de_int, de_bl, de_non, de_tup, de_lst, de_dic, de_inp, eqD_str, eqD_int, eqD_bl, bin_eq, bin_ne, bin_inn_tup, bin_inn_lst, bin_notin_tup, bin_notin_lst, bin_inn_str, bin_notin_str, bin_add_int, bin_sub_int, bin_add_tup, bin_add_lst, bin_lt_int, bin_gt_int, bin_le_int, bin_ge_int, bin_band, bin_bor, bin_shl, bin_shr, bin_mod, bin_fdiv, bin_mul_int, bin_mul_lst, bin_mul_tup, un_not, un_inv, idx_tup, idx_lst, idx_str, idx_dic, slc_tup, slc_lst, slc_inp, prim_len_tup, prim_len_lst, prim_len_str, prim_int_int, prim_int_bl, prim_tuple_lst, prim_tuple_tup, prim_list_lst, prim_list_tup, prim_all, prim_any, prim_sum, prim_max2, prim_sorted, prim_lr, prim_abs, atI_0, atI_1, atI_2, cut_from1, items_tup, items_lst, items_rng1, items_enum_tup, items_zip_tup, mk_f, mk_t, LIM, cal_fn, cal_W, cal_meth, cal_init, guard_nil, guard_int, guard_tup, guard_lst, d2])]
    simp only [Option.bind_some]
    rw [ev_prim (evs_1 i0) (by show prim .len [.lst _] = _; rw [prim_len_lst])]
    simp only [Option.bind_some, de_int, List.length_map, bin_fdivN _ _ (show nums.length ≠ 0 by omega) ll, ht, Option.map_some]
  have j0 : ev (cal P (run P n)) (.idx (.var 0) (.cst (.int 0))) [some (.ref r), some (.int m), some (.int t)] S1 = some (.lst (nums.map .int), S1) := by (simp (decide := true) [exs, ex, ev, evs, evo, evc, bindT, bindL, getV, seqOf, de_str, de_int, de_bl, de_non, de_tup, de_lst, de_dic, de_inp, eqD_str, eqD_int, eqD_bl, bin_eq, bin_ne, bin_inn_tup, bin_inn_lst, bin_notin_tup, bin_notin_lst, bin_inn_str, bin_notin_str, bin_add_int, bin_sub_int, bin_add_tup, bin_add_lst, bin_lt_int, bin_gt_int, bin_le_int, bin_ge_int, bin_band, bin_bor, bin_shl, bin_shr, bin_mod, bin_fdiv, bin_mul_int, bin_mul_lst, bin_mul_tup, un_not, un_inv, idx_tup, idx_lst, idx_str, idx_dic, slc_tup, slc_lst, slc_inp, prim_len_tup, prim_len_lst, prim_len_str, prim_int_int, prim_int_bl, prim_tuple_lst, prim_tuple_tup, prim_list_lst, prim_list_tup, prim_all, prim_any, prim_sum, prim_max2, prim_sorted, prim_lr, prim_abs, atI_0, atI_1, atI_2, cut_from1, items_tup, items_lst, items_rng1, items_enum_tup, items_zip_tup, mk_f, mk_t, LIM, cal_fn, cal_W, cal_meth, cal_init, guard_nil, guard_int, guard_tup, guard_lst, d2])
  have j1 : ev (cal P (run P n)) (.idx (.var 0) (.cst (.int 1))) [some (.ref r), some (.int m), some (.int t)] S1 = some (.int ((c + 1 : Nat) : Int), S1) := by (simp (decide := true) [exs, ex, ev, evs, evo, evc, bindT, bindL, getV, seqOf, de_str, de_int, de_bl, de_non, de_tup, de_lst, de_dic, de_inp, eqD_str, eqD_int, eqD_bl, bin_eq, bin_ne, bin_inn_tup, bin_inn_lst, bin_notin_tup, bin_notin_lst, bin_inn_str, bin_notin_str, bin_add_int, bin_sub_int, bin_add_tup, bin_add_lst, bin_lt_int, bin_gt_int, bin_le_int, bin_ge_int, bin_band, bin_bor, bin_shl, bin_shr, bin_mod, bin_fdiv, bin_mul_int, bin_mul_lst, bin_mul_tup, un_not, un_inv, idx_tup, idx_lst, idx_str, idx_dic, slc_tup, slc_lst, slc_inp, prim_len_tup, prim_len_lst, prim_len_str, prim_int_int, prim_int_bl, prim_tuple_lst, prim_tuple_tup, prim_list_lst, prim_list_tup, prim_all, prim_any, prim_sum, prim_max2, prim_sorted, prim_lr, prim_abs, atI_0, atI_1, atI_2, cut_from1, items_tup, items_lst, items_rng1, items_enum_tup, items_zip_tup, mk_f, mk_t, LIM, cal_fn, cal_W, cal_meth, cal_init, guard_nil, guard_int, guard_tup, guard_lst, d2])
  have g3 : ev (cal P (run P n)) (.b2 .mod (.prim .int [(.b2 .add (.b2 .add (.idx (.idx (.var 0) (.cst (.int 0))) (.b2 .mod (.idx (.var 0) (.cst (.int 1))) (.prim .len [(.idx (.var 0) (.cst (.int 0)))]))) (.b2 .mul (.var 2) (.cst (.int 389)))) (.b2 .mul (.b2 .mul (.idx (.var 0) (.cst (.int 1))) (.var 2)) (.cst (.int 17))))]) (.var 1)) [some (.ref r), some (.int m), some (.int t)] S1 = some (.int (z.fmod m), S1) := by
    have a1 : ev (cal P (run P n)) (.b2 .mod (.idx (.var 0) (.cst (.int 1))) (.prim .len [(.idx (.var 0) (.cst (.int 0)))])) [some (.ref r), some (.int m), some (.int t)] S1 = some (.int k, S1) := by
      rw [ev, j1]
      simp only [Option.bind_some]
      rw [ev_prim (evs_1 j0) (by show prim .len [.lst _] = _; rw [prim_len_lst])]
      simp only [Option.bind_some, de_int, bin_mod, List.length_map, decide_eq_true hl, if_true, hk, Option.map_some]
    have a2 : ev (cal P (run P n)) (.idx (.idx (.var 0) (.cst (.int 0))) (.b2 .mod (.idx (.var 0) (.cst (.int 1))) (.prim .len [(.idx (.var 0) (.cst (.int 0)))]))) [some (.ref r), some (.int m), some (.int t)] S1 = some (.int y, S1) := by
      rw [ev, j0]
      simp only [Option.bind_some, a1, de_lst, idx_lst, hx, Option.map_some]
    have a3 : ev (cal P (run P n)) (.b2 .mul (.var 2) (.cst (.int 389))) [some (.ref r), some (.int m), some (.int t)] S1 = some (.int (t * 389), S1) := by
      simp only [ev, getV, List.getElem?_cons_zero, List.getElem?_cons_succ, Option.join_some, Option.map_some, Option.bind_some, de_int, bin_mulS t 389 (by omega) (by omega)]
    have hmul := bin_mulN (c + 1) t (Nat.le_trans (Nat.succ_le_of_lt hc) (by omega))
    have a4 : ev (cal P (run P n)) (.b2 .mul (.idx (.var 0) (.cst (.int 1))) (.var 2)) [some (.ref r), some (.int m), some (.int t)] S1 = some (.int (((c + 1 : Nat) : Int) * t), S1) := ev_b2i j1 rfl hmul
    have a5 : ev (cal P (run P n)) (.b2 .mul (.b2 .mul (.idx (.var 0) (.cst (.int 1))) (.var 2)) (.cst (.int 17))) [some (.ref r), some (.int m), some (.int t)] S1 = some (.int (((c + 1 : Nat) : Int) * t * 17), S1) := by
      rw [ev, a4]
      simp only [ev, Option.bind_some, de_int, bin_mulS _ 17 (by omega) (by omega), Option.map_some]
    have a6 : ev (cal P (run P n)) (.b2 .add (.b2 .add (.idx (.idx (.var 0) (.cst (.int 0))) (.b2 .mod (.idx (.var 0) (.cst (.int 1))) (.prim .len [(.idx (.var 0) (.cst (.int 0)))]))) (.b2 .mul (.var 2) (.cst (.int 389)))) (.b2 .mul (.b2 .mul (.idx (.var 0) (.cst (.int 1))) (.var 2)) (.cst (.int 17)))) [some (.ref r), some (.int m), some (.int t)] S1 = some (.int z, S1) := by
      rw [ev, ev, a2]
      simp only [Option.bind_some, a3, a5, de_int, bin_add_int, Option.map_some, hz]
    exact ev_imod a6 rfl hm
  have key : (exs (cal P (run P n)) l22.body ([.ref r, .int m].map some ++ List.replicate l22.nloc none) S) = some (.rt (.int (z.fmod m)), [some (.ref r), some (.int m), some (.int t)], S1) := by
    show exs (cal P (run P n)) [_, _, _] [some (.ref r), some (.int m), none] S = _
    rw [exs_nx g1, exs_nx g2]
    exact exs_rt (ex_ret g3)
  rw [key, Option.bind_some, ← hS1]
  exact leaveF_set0 (fun b => stC_ok nums (c + 1) b) rfl
end Fw
end
section
set_option Elab.async false
set_option linter.all false
set_option autoImplicit false
set_option maxRecDepth 10000
set_option maxHeartbeats 2000000
/-! Pl16: a law's own reading of a formula. -/
namespace Fw
open PySem
def l24 : FD := ⟨1, 0, [
  .ife (.and (.b2 .inn (.idx (.var 0) (.cst (.int 0))) (.lst false [(.cst (.str "and")), (.cst (.str "or"))])) (.b2 .eq (.prim .len [(.var 0)]) (.cst (.int 2)))) [.ret (.prim .list [(.idx (.var 0) (.cst (.int 1)))])] [],
  .ret (.b2 .mul (.prim .list [(.slc (.var 0) (some (.cst (.int 1))) none)]) (.prim .int [(.b2 .eq (.idx (.var 0) (.cst (.int 0))) (.cst (.str "not")))]))]⟩
def l25 (t a : Nat) : FD := ⟨2, 3, [
  .asg (.name 2) (.idx (.var 0) (.cst (.int 0))),
  .ife (.b2 .inn (.var 2) (.lst false [(.cst (.str "true")), (.cst (.str "false"))])) [.ret (.b2 .eq (.var 2) (.cst (.str "true")))] [],
  .ife (.b2 .eq (.var 2) (.cst (.str "claim"))) [.ret (.b2 .inn (.idx (.var 0) (.cst (.int 1))) (.var 1))] [],
  .asg (.name 3) (.comp false (.call t [(.var 4), (.var 1)]) (.name 4) .seq [(.call a [(.var 0)])] []),
  .ife (.b2 .eq (.var 2) (.cst (.str "not"))) [.ret (.u1 .not (.idx (.var 3) (.cst (.int 0))))] [],
  .ret (.idx (.lst false [(.prim .any [(.var 3)]), (.prim .all [(.var 3)])]) (.prim .int [(.b2 .eq (.var 2) (.cst (.str "and")))]))]⟩
theorem linner_spec {P : Prog} {i : Nat} (h : P.funs[i]? = some l24) (n : Nat) (f : Fm) (S : Store) : run P (n + 1) i [f.enc] S = some (.lst (Fm.encs f.inners), S) := by
  rw [run_eq h rfl]
  have m : ∀ x : Str, memD (.str x) [.str "and", .str "or"] = some (decide (x ∈ (["and", "or"] : List Str))) := fun x => memD_strs x ["and", "or"]
  have r0 : ∀ xs, rep 0 xs = [] := fun xs => rfl
  have r1 : ∀ x : D, rep 1 [x] = [x] := fun x => rfl
  have key : ∃ σ, (exs (cal P (run P n)) l24.body ([f.enc].map some ++ List.replicate l24.nloc none) S) = some (.rt (.lst (Fm.encs f.inners)), σ, S) := by
    cases f with
    | tt => simp only [l24, Fm.enc]; (simp (decide := true) [exs, ex, ev, evs, evo, evc, bindT, bindL, getV, seqOf, de_str, de_int, de_bl, de_non, de_tup, de_lst, de_dic, de_inp, eqD_str, eqD_int, eqD_bl, bin_eq, bin_ne, bin_inn_tup, bin_inn_lst, bin_notin_tup, bin_notin_lst, bin_inn_str, bin_notin_str, bin_add_int, bin_sub_int, bin_add_tup, bin_add_lst, bin_lt_int, bin_gt_int, bin_le_int, bin_ge_int, bin_band, bin_bor, bin_shl, bin_shr, bin_mod, bin_fdiv, bin_mul_int, bin_mul_lst, bin_mul_tup, un_not, un_inv, idx_tup, idx_lst, idx_str, idx_dic, slc_tup, slc_lst, slc_inp, prim_len_tup, prim_len_lst, prim_len_str, prim_int_int, prim_int_bl, prim_tuple_lst, prim_tuple_tup, prim_list_lst, prim_list_tup, prim_all, prim_any, prim_sum, prim_max2, prim_sorted, prim_lr, prim_abs, atI_0, atI_1, atI_2, cut_from1, items_tup, items_lst, items_rng1, items_enum_tup, items_zip_tup, mk_f, mk_t, LIM, cal_fn, cal_W, cal_meth, cal_init, guard_nil, guard_int, guard_tup, guard_lst, m, Fm.inners, Fm.encs, r0])
    | ff => simp only [l24, Fm.enc]; (simp (decide := true) [exs, ex, ev, evs, evo, evc, bindT, bindL, getV, seqOf, de_str, de_int, de_bl, de_non, de_tup, de_lst, de_dic, de_inp, eqD_str, eqD_int, eqD_bl, bin_eq, bin_ne, bin_inn_tup, bin_inn_lst, bin_notin_tup, bin_notin_lst, bin_inn_str, bin_notin_str, bin_add_int, bin_sub_int, bin_add_tup, bin_add_lst, bin_lt_int, bin_gt_int, bin_le_int, bin_ge_int, bin_band, bin_bor, bin_shl, bin_shr, bin_mod, bin_fdiv, bin_mul_int, bin_mul_lst, bin_mul_tup, un_not, un_inv, idx_tup, idx_lst, idx_str, idx_dic, slc_tup, slc_lst, slc_inp, prim_len_tup, prim_len_lst, prim_len_str, prim_int_int, prim_int_bl, prim_tuple_lst, prim_tuple_tup, prim_list_lst, prim_list_tup, prim_all, prim_any, prim_sum, prim_max2, prim_sorted, prim_lr, prim_abs, atI_0, atI_1, atI_2, cut_from1, items_tup, items_lst, items_rng1, items_enum_tup, items_zip_tup, mk_f, mk_t, LIM, cal_fn, cal_W, cal_meth, cal_init, guard_nil, guard_int, guard_tup, guard_lst, m, Fm.inners, Fm.encs, r0])
    | cl c => simp only [l24, Fm.enc]; (simp (decide := true) [exs, ex, ev, evs, evo, evc, bindT, bindL, getV, seqOf, de_str, de_int, de_bl, de_non, de_tup, de_lst, de_dic, de_inp, eqD_str, eqD_int, eqD_bl, bin_eq, bin_ne, bin_inn_tup, bin_inn_lst, bin_notin_tup, bin_notin_lst, bin_inn_str, bin_notin_str, bin_add_int, bin_sub_int, bin_add_tup, bin_add_lst, bin_lt_int, bin_gt_int, bin_le_int, bin_ge_int, bin_band, bin_bor, bin_shl, bin_shr, bin_mod, bin_fdiv, bin_mul_int, bin_mul_lst, bin_mul_tup, un_not, un_inv, idx_tup, idx_lst, idx_str, idx_dic, slc_tup, slc_lst, slc_inp, prim_len_tup, prim_len_lst, prim_len_str, prim_int_int, prim_int_bl, prim_tuple_lst, prim_tuple_tup, prim_list_lst, prim_list_tup, prim_all, prim_any, prim_sum, prim_max2, prim_sorted, prim_lr, prim_abs, atI_0, atI_1, atI_2, cut_from1, items_tup, items_lst, items_rng1, items_enum_tup, items_zip_tup, mk_f, mk_t, LIM, cal_fn, cal_W, cal_meth, cal_init, guard_nil, guard_int, guard_tup, guard_lst, m, Fm.inners, Fm.encs, r0])
    | nt f => simp only [l24, Fm.enc]; (simp (decide := true) [exs, ex, ev, evs, evo, evc, bindT, bindL, getV, seqOf, de_str, de_int, de_bl, de_non, de_tup, de_lst, de_dic, de_inp, eqD_str, eqD_int, eqD_bl, bin_eq, bin_ne, bin_inn_tup, bin_inn_lst, bin_notin_tup, bin_notin_lst, bin_inn_str, bin_notin_str, bin_add_int, bin_sub_int, bin_add_tup, bin_add_lst, bin_lt_int, bin_gt_int, bin_le_int, bin_ge_int, bin_band, bin_bor, bin_shl, bin_shr, bin_mod, bin_fdiv, bin_mul_int, bin_mul_lst, bin_mul_tup, un_not, un_inv, idx_tup, idx_lst, idx_str, idx_dic, slc_tup, slc_lst, slc_inp, prim_len_tup, prim_len_lst, prim_len_str, prim_int_int, prim_int_bl, prim_tuple_lst, prim_tuple_tup, prim_list_lst, prim_list_tup, prim_all, prim_any, prim_sum, prim_max2, prim_sorted, prim_lr, prim_abs, atI_0, atI_1, atI_2, cut_from1, items_tup, items_lst, items_rng1, items_enum_tup, items_zip_tup, mk_f, mk_t, LIM, cal_fn, cal_W, cal_meth, cal_init, guard_nil, guard_int, guard_tup, guard_lst, m, Fm.inners, Fm.encs, r1])
    | nn b fs => cases b <;> (simp only [l24, Fm.enc]; (simp (decide := true) [exs, ex, ev, evs, evo, evc, bindT, bindL, getV, seqOf, de_str, de_int, de_bl, de_non, de_tup, de_lst, de_dic, de_inp, eqD_str, eqD_int, eqD_bl, bin_eq, bin_ne, bin_inn_tup, bin_inn_lst, bin_notin_tup, bin_notin_lst, bin_inn_str, bin_notin_str, bin_add_int, bin_sub_int, bin_add_tup, bin_add_lst, bin_lt_int, bin_gt_int, bin_le_int, bin_ge_int, bin_band, bin_bor, bin_shl, bin_shr, bin_mod, bin_fdiv, bin_mul_int, bin_mul_lst, bin_mul_tup, un_not, un_inv, idx_tup, idx_lst, idx_str, idx_dic, slc_tup, slc_lst, slc_inp, prim_len_tup, prim_len_lst, prim_len_str, prim_int_int, prim_int_bl, prim_tuple_lst, prim_tuple_tup, prim_list_lst, prim_list_tup, prim_all, prim_any, prim_sum, prim_max2, prim_sorted, prim_lr, prim_abs, atI_0, atI_1, atI_2, cut_from1, items_tup, items_lst, items_rng1, items_enum_tup, items_zip_tup, mk_f, mk_t, LIM, cal_fn, cal_W, cal_meth, cal_init, guard_nil, guard_int, guard_tup, guard_lst, m, Fm.inners]))
  obtain ⟨σ, key⟩ := key
  rw [key, Option.bind_some]
  exact leaveF_py0 (by rw [D.isPy]; exact Fm.pys _)
/-- what a choice of claims says -/
def say (W : List Str) (s : Str) : Bool := decide (s ∈ W)
abbrev strsD (W : List Str) : D := .tup (W.map .str)
theorem ltrue_spec {P : Prog} {t a : Nat} (ha : P.funs[a]? = some l24) (ht : P.funs[t]? = some (l25 t a)) (W : List Str) (S : Store) :
    ∀ (n : Nat) (f : Fm), f.dep ≤ n → f.parts ≤ 1000 → run P (n + 2) t [f.enc, strsD W] S = some (.bl (f.val (say W)), S) := by
  intro n
  induction n using Nat.strongRecOn with
  | _ n ih =>
  intro f hd hpp
  rw [run_eq ht rfl]
  have m : ∀ x : Str, memD (.str x) [.str "true", .str "false"] = some (decide (x ∈ (["true", "false"] : List Str))) := fun x => memD_strs x ["true", "false"]
  have e3 := linner_spec ha n f S
  have comp : ∀ (w : Str), ev (cal P (run P (n + 1))) (.comp false (.call t [(.var 4), (.var 1)]) (.name 4) .seq [(.call a [(.var 0)])] []) [some f.enc, some (strsD W), some (.str w), none, none] S = some (.lst (f.inners.map fun g => .bl (g.val (say W))), S) := fun w => by
    rw [ev_comp (ds := [.lst (Fm.encs f.inners)]) (S1 := S) (xs := Fm.encs f.inners) (by (simp (decide := true) [exs, ex, ev, evs, evo, evc, bindT, bindL, getV, seqOf, de_str, de_int, de_bl, de_non, de_tup, de_lst, de_dic, de_inp, eqD_str, eqD_int, eqD_bl, bin_eq, bin_ne, bin_inn_tup, bin_inn_lst, bin_notin_tup, bin_notin_lst, bin_inn_str, bin_notin_str, bin_add_int, bin_sub_int, bin_add_tup, bin_add_lst, bin_lt_int, bin_gt_int, bin_le_int, bin_ge_int, bin_band, bin_bor, bin_shl, bin_shr, bin_mod, bin_fdiv, bin_mul_int, bin_mul_lst, bin_mul_tup, un_not, un_inv, idx_tup, idx_lst, idx_str, idx_dic, slc_tup, slc_lst, slc_inp, prim_len_tup, prim_len_lst, prim_len_str, prim_int_int, prim_int_bl, prim_tuple_lst, prim_tuple_tup, prim_list_lst, prim_list_tup, prim_all, prim_any, prim_sum, prim_max2, prim_sorted, prim_lr, prim_abs, atI_0, atI_1, atI_2, cut_from1, items_tup, items_lst, items_rng1, items_enum_tup, items_zip_tup, mk_f, mk_t, LIM, cal_fn, cal_W, cal_meth, cal_init, guard_nil, guard_int, guard_tup, guard_lst, e3])) rfl, Fm.encs_map, compL_mapc Fm.enc (fun g => D.bl (g.val (say W))) rfl]
    · have := (Fm.inners_short hpp).1
      simp [mk_f, LIM]; omega
    · intro g hg
      have hgd := Fm.deps_mem hg
      rw [← Fm.dep_inners] at hgd
      obtain ⟨m', rfl⟩ : ∃ m', n = m' + 1 := ⟨n - 1, by omega⟩
      have e := ih m' (by omega) g (by omega) ((Fm.inners_short hpp).2 g hg)
      (simp (decide := true) [exs, ex, ev, evs, evo, evc, bindT, bindL, getV, seqOf, de_str, de_int, de_bl, de_non, de_tup, de_lst, de_dic, de_inp, eqD_str, eqD_int, eqD_bl, bin_eq, bin_ne, bin_inn_tup, bin_inn_lst, bin_notin_tup, bin_notin_lst, bin_inn_str, bin_notin_str, bin_add_int, bin_sub_int, bin_add_tup, bin_add_lst, bin_lt_int, bin_gt_int, bin_le_int, bin_ge_int, bin_band, bin_bor, bin_shl, bin_shr, bin_mod, bin_fdiv, bin_mul_int, bin_mul_lst, bin_mul_tup, un_not, un_inv, idx_tup, idx_lst, idx_str, idx_dic, slc_tup, slc_lst, slc_inp, prim_len_tup, prim_len_lst, prim_len_str, prim_int_int, prim_int_bl, prim_tuple_lst, prim_tuple_tup, prim_list_lst, prim_list_tup, prim_all, prim_any, prim_sum, prim_max2, prim_sorted, prim_lr, prim_abs, atI_0, atI_1, atI_2, cut_from1, items_tup, items_lst, items_rng1, items_enum_tup, items_zip_tup, mk_f, mk_t, LIM, cal_fn, cal_W, cal_meth, cal_init, guard_nil, guard_int, guard_tup, guard_lst, e])
  have key : ∃ σ, (exs (cal P (run P (n + 1))) (l25 t a).body ([f.enc, strsD W].map some ++ List.replicate (l25 t a).nloc none) S) = some (.rt (.bl (f.val (say W))), σ, S) := by
    cases f with
    | tt => simp only [l25, Fm.enc]; (simp (decide := true) [exs, ex, ev, evs, evo, evc, bindT, bindL, getV, seqOf, de_str, de_int, de_bl, de_non, de_tup, de_lst, de_dic, de_inp, eqD_str, eqD_int, eqD_bl, bin_eq, bin_ne, bin_inn_tup, bin_inn_lst, bin_notin_tup, bin_notin_lst, bin_inn_str, bin_notin_str, bin_add_int, bin_sub_int, bin_add_tup, bin_add_lst, bin_lt_int, bin_gt_int, bin_le_int, bin_ge_int, bin_band, bin_bor, bin_shl, bin_shr, bin_mod, bin_fdiv, bin_mul_int, bin_mul_lst, bin_mul_tup, un_not, un_inv, idx_tup, idx_lst, idx_str, idx_dic, slc_tup, slc_lst, slc_inp, prim_len_tup, prim_len_lst, prim_len_str, prim_int_int, prim_int_bl, prim_tuple_lst, prim_tuple_tup, prim_list_lst, prim_list_tup, prim_all, prim_any, prim_sum, prim_max2, prim_sorted, prim_lr, prim_abs, atI_0, atI_1, atI_2, cut_from1, items_tup, items_lst, items_rng1, items_enum_tup, items_zip_tup, mk_f, mk_t, LIM, cal_fn, cal_W, cal_meth, cal_init, guard_nil, guard_int, guard_tup, guard_lst, m, Fm.val])
    | ff => simp only [l25, Fm.enc]; (simp (decide := true) [exs, ex, ev, evs, evo, evc, bindT, bindL, getV, seqOf, de_str, de_int, de_bl, de_non, de_tup, de_lst, de_dic, de_inp, eqD_str, eqD_int, eqD_bl, bin_eq, bin_ne, bin_inn_tup, bin_inn_lst, bin_notin_tup, bin_notin_lst, bin_inn_str, bin_notin_str, bin_add_int, bin_sub_int, bin_add_tup, bin_add_lst, bin_lt_int, bin_gt_int, bin_le_int, bin_ge_int, bin_band, bin_bor, bin_shl, bin_shr, bin_mod, bin_fdiv, bin_mul_int, bin_mul_lst, bin_mul_tup, un_not, un_inv, idx_tup, idx_lst, idx_str, idx_dic, slc_tup, slc_lst, slc_inp, prim_len_tup, prim_len_lst, prim_len_str, prim_int_int, prim_int_bl, prim_tuple_lst, prim_tuple_tup, prim_list_lst, prim_list_tup, prim_all, prim_any, prim_sum, prim_max2, prim_sorted, prim_lr, prim_abs, atI_0, atI_1, atI_2, cut_from1, items_tup, items_lst, items_rng1, items_enum_tup, items_zip_tup, mk_f, mk_t, LIM, cal_fn, cal_W, cal_meth, cal_init, guard_nil, guard_int, guard_tup, guard_lst, m, Fm.val])
    | cl s =>
      have ms := memD_strs s W
      simp only [l25, Fm.enc, strsD]
      (simp (decide := true) [exs, ex, ev, evs, evo, evc, bindT, bindL, getV, seqOf, de_str, de_int, de_bl, de_non, de_tup, de_lst, de_dic, de_inp, eqD_str, eqD_int, eqD_bl, bin_eq, bin_ne, bin_inn_tup, bin_inn_lst, bin_notin_tup, bin_notin_lst, bin_inn_str, bin_notin_str, bin_add_int, bin_sub_int, bin_add_tup, bin_add_lst, bin_lt_int, bin_gt_int, bin_le_int, bin_ge_int, bin_band, bin_bor, bin_shl, bin_shr, bin_mod, bin_fdiv, bin_mul_int, bin_mul_lst, bin_mul_tup, un_not, un_inv, idx_tup, idx_lst, idx_str, idx_dic, slc_tup, slc_lst, slc_inp, prim_len_tup, prim_len_lst, prim_len_str, prim_int_int, prim_int_bl, prim_tuple_lst, prim_tuple_tup, prim_list_lst, prim_list_tup, prim_all, prim_any, prim_sum, prim_max2, prim_sorted, prim_lr, prim_abs, atI_0, atI_1, atI_2, cut_from1, items_tup, items_lst, items_rng1, items_enum_tup, items_zip_tup, mk_f, mk_t, LIM, cal_fn, cal_W, cal_meth, cal_init, guard_nil, guard_int, guard_tup, guard_lst, m, Fm.val, say, ms])
    | nt f =>
      refine ⟨[some (Fm.nt f).enc, some (strsD W), some (.str "not"), some (.lst ((Fm.nt f).inners.map fun g => .bl (g.val (say W)))), none], ?_⟩
      have c0 := comp "not"
      show exs (cal P (run P (n + 1))) [_, _, _, _, _, _] [some (Fm.nt f).enc, some (strsD W), none, none, none] S = _
      have s5 : ex (cal P (run P (n + 1))) (.ife (.b2 .eq (.var 2) (.cst (.str "not"))) [.ret (.u1 .not (.idx (.var 3) (.cst (.int 0))))] []) [some (Fm.nt f).enc, some (strsD W), some (.str "not"), some (.lst ((Fm.nt f).inners.map fun g => .bl (g.val (say W)))), none] S = some (.rt (.bl ((Fm.nt f).val (say W))), [some (Fm.nt f).enc, some (strsD W), some (.str "not"), some (.lst ((Fm.nt f).inners.map fun g => .bl (g.val (say W)))), none], S) := by
        rw [ex_if_t (S1 := S) (by (simp (decide := true) [exs, ex, ev, evs, evo, evc, bindT, bindL, getV, seqOf, de_str, de_int, de_bl, de_non, de_tup, de_lst, de_dic, de_inp, eqD_str, eqD_int, eqD_bl, bin_eq, bin_ne, bin_inn_tup, bin_inn_lst, bin_notin_tup, bin_notin_lst, bin_inn_str, bin_notin_str, bin_add_int, bin_sub_int, bin_add_tup, bin_add_lst, bin_lt_int, bin_gt_int, bin_le_int, bin_ge_int, bin_band, bin_bor, bin_shl, bin_shr, bin_mod, bin_fdiv, bin_mul_int, bin_mul_lst, bin_mul_tup, un_not, un_inv, idx_tup, idx_lst, idx_str, idx_dic, slc_tup, slc_lst, slc_inp, prim_len_tup, prim_len_lst, prim_len_str, prim_int_int, prim_int_bl, prim_tuple_lst, prim_tuple_tup, prim_list_lst, prim_list_tup, prim_all, prim_any, prim_sum, prim_max2, prim_sorted, prim_lr, prim_abs, atI_0, atI_1, atI_2, cut_from1, items_tup, items_lst, items_rng1, items_enum_tup, items_zip_tup, mk_f, mk_t, LIM, cal_fn, cal_W, cal_meth, cal_init, guard_nil, guard_int, guard_tup, guard_lst]))]
        refine exs_rt (ex_ret ?_)
        (simp (decide := true) [exs, ex, ev, evs, evo, evc, bindT, bindL, getV, seqOf, de_str, de_int, de_bl, de_non, de_tup, de_lst, de_dic, de_inp, eqD_str, eqD_int, eqD_bl, bin_eq, bin_ne, bin_inn_tup, bin_inn_lst, bin_notin_tup, bin_notin_lst, bin_inn_str, bin_notin_str, bin_add_int, bin_sub_int, bin_add_tup, bin_add_lst, bin_lt_int, bin_gt_int, bin_le_int, bin_ge_int, bin_band, bin_bor, bin_shl, bin_shr, bin_mod, bin_fdiv, bin_mul_int, bin_mul_lst, bin_mul_tup, un_not, un_inv, idx_tup, idx_lst, idx_str, idx_dic, slc_tup, slc_lst, slc_inp, prim_len_tup, prim_len_lst, prim_len_str, prim_int_int, prim_int_bl, prim_tuple_lst, prim_tuple_tup, prim_list_lst, prim_list_tup, prim_all, prim_any, prim_sum, prim_max2, prim_sorted, prim_lr, prim_abs, atI_0, atI_1, atI_2, cut_from1, items_tup, items_lst, items_rng1, items_enum_tup, items_zip_tup, mk_f, mk_t, LIM, cal_fn, cal_W, cal_meth, cal_init, guard_nil, guard_int, guard_tup, guard_lst, Fm.inners, Fm.val])
      rw [exs_nx (σ' := [some (Fm.nt f).enc, some (strsD W), some (.str "not"), none, none]) (S' := S) (by simp only [Fm.enc]; (simp (decide := true) [exs, ex, ev, evs, evo, evc, bindT, bindL, getV, seqOf, de_str, de_int, de_bl, de_non, de_tup, de_lst, de_dic, de_inp, eqD_str, eqD_int, eqD_bl, bin_eq, bin_ne, bin_inn_tup, bin_inn_lst, bin_notin_tup, bin_notin_lst, bin_inn_str, bin_notin_str, bin_add_int, bin_sub_int, bin_add_tup, bin_add_lst, bin_lt_int, bin_gt_int, bin_le_int, bin_ge_int, bin_band, bin_bor, bin_shl, bin_shr, bin_mod, bin_fdiv, bin_mul_int, bin_mul_lst, bin_mul_tup, un_not, un_inv, idx_tup, idx_lst, idx_str, idx_dic, slc_tup, slc_lst, slc_inp, prim_len_tup, prim_len_lst, prim_len_str, prim_int_int, prim_int_bl, prim_tuple_lst, prim_tuple_tup, prim_list_lst, prim_list_tup, prim_all, prim_any, prim_sum, prim_max2, prim_sorted, prim_lr, prim_abs, atI_0, atI_1, atI_2, cut_from1, items_tup, items_lst, items_rng1, items_enum_tup, items_zip_tup, mk_f, mk_t, LIM, cal_fn, cal_W, cal_meth, cal_init, guard_nil, guard_int, guard_tup, guard_lst])), exs_nx (σ' := [some (Fm.nt f).enc, some (strsD W), some (.str "not"), none, none]) (S' := S) (by (simp (decide := true) [exs, ex, ev, evs, evo, evc, bindT, bindL, getV, seqOf, de_str, de_int, de_bl, de_non, de_tup, de_lst, de_dic, de_inp, eqD_str, eqD_int, eqD_bl, bin_eq, bin_ne, bin_inn_tup, bin_inn_lst, bin_notin_tup, bin_notin_lst, bin_inn_str, bin_notin_str, bin_add_int, bin_sub_int, bin_add_tup, bin_add_lst, bin_lt_int, bin_gt_int, bin_le_int, bin_ge_int, bin_band, bin_bor, bin_shl, bin_shr, bin_mod, bin_fdiv, bin_mul_int, bin_mul_lst, bin_mul_tup, un_not, un_inv, idx_tup, idx_lst, idx_str, idx_dic, slc_tup, slc_lst, slc_inp, prim_len_tup, prim_len_lst, prim_len_str, prim_int_int, prim_int_bl, prim_tuple_lst, prim_tuple_tup, prim_list_lst, prim_list_tup, prim_all, prim_any, prim_sum, prim_max2, prim_sorted, prim_lr, prim_abs, atI_0, atI_1, atI_2, cut_from1, items_tup, items_lst, items_rng1, items_enum_tup, items_zip_tup, mk_f, mk_t, LIM, cal_fn, cal_W, cal_meth, cal_init, guard_nil, guard_int, guard_tup, guard_lst, m])), exs_nx (σ' := [some (Fm.nt f).enc, some (strsD W), some (.str "not"), none, none]) (S' := S) (by (simp (decide := true) [exs, ex, ev, evs, evo, evc, bindT, bindL, getV, seqOf, de_str, de_int, de_bl, de_non, de_tup, de_lst, de_dic, de_inp, eqD_str, eqD_int, eqD_bl, bin_eq, bin_ne, bin_inn_tup, bin_inn_lst, bin_notin_tup, bin_notin_lst, bin_inn_str, bin_notin_str, bin_add_int, bin_sub_int, bin_add_tup, bin_add_lst, bin_lt_int, bin_gt_int, bin_le_int, bin_ge_int, bin_band, bin_bor, bin_shl, bin_shr, bin_mod, bin_fdiv, bin_mul_int, bin_mul_lst, bin_mul_tup, un_not, un_inv, idx_tup, idx_lst, idx_str, idx_dic, slc_tup, slc_lst, slc_inp, prim_len_tup, prim_len_lst, prim_len_str, prim_int_int, prim_int_bl, prim_tuple_lst, prim_tuple_tup, prim_list_lst, prim_list_tup, prim_all, prim_any, prim_sum, prim_max2, prim_sorted, prim_lr, prim_abs, atI_0, atI_1, atI_2, cut_from1, items_tup, items_lst, items_rng1, items_enum_tup, items_zip_tup, mk_f, mk_t, LIM, cal_fn, cal_W, cal_meth, cal_init, guard_nil, guard_int, guard_tup, guard_lst])), exs_nx (σ' := [some (Fm.nt f).enc, some (strsD W), some (.str "not"), some (.lst ((Fm.nt f).inners.map fun g => .bl (g.val (say W)))), none]) (S' := S) (ex_asg c0 rfl), exs_rt s5]
    | nn b fs =>
      have main : ∀ w : Str, w = (if b then ("and" : Str) else ("or" : Str)) → ∃ σ, (exs (cal P (run P (n + 1))) (l25 t a).body [some (Fm.nn b fs).enc, some (strsD W), none, none, none] S) = some (.rt (.bl ((Fm.nn b fs).val (say W))), σ, S) := fun w hw => by
        refine ⟨[some (Fm.nn b fs).enc, some (strsD W), some (.str w), some (.lst ((Fm.nn b fs).inners.map fun g => .bl (g.val (say W)))), none], ?_⟩
        have c0 := comp w
        have c1 : ev (cal P (run P (n + 1))) (.idx (.lst false [(.prim .any [(.var 3)]), (.prim .all [(.var 3)])]) (.prim .int [(.b2 .eq (.var 2) (.cst (.str "and")))])) [some (Fm.nn b fs).enc, some (strsD W), some (.str w), some (.lst ((Fm.nn b fs).inners.map fun g => .bl (g.val (say W)))), none] S = some (.bl ((Fm.nn b fs).val (say W)), S) := by
          cases b <;> subst hw <;> (simp (decide := true) [exs, ex, ev, evs, evo, evc, bindT, bindL, getV, seqOf, de_str, de_int, de_bl, de_non, de_tup, de_lst, de_dic, de_inp, eqD_str, eqD_int, eqD_bl, bin_eq, bin_ne, bin_inn_tup, bin_inn_lst, bin_notin_tup, bin_notin_lst, bin_inn_str, bin_notin_str, bin_add_int, bin_sub_int, bin_add_tup, bin_add_lst, bin_lt_int, bin_gt_int, bin_le_int, bin_ge_int, bin_band, bin_bor, bin_shl, bin_shr, bin_mod, bin_fdiv, bin_mul_int, bin_mul_lst, bin_mul_tup, un_not, un_inv, idx_tup, idx_lst, idx_str, idx_dic, slc_tup, slc_lst, slc_inp, prim_len_tup, prim_len_lst, prim_len_str, prim_int_int, prim_int_bl, prim_tuple_lst, prim_tuple_tup, prim_list_lst, prim_list_tup, prim_all, prim_any, prim_sum, prim_max2, prim_sorted, prim_lr, prim_abs, atI_0, atI_1, atI_2, cut_from1, items_tup, items_lst, items_rng1, items_enum_tup, items_zip_tup, mk_f, mk_t, LIM, cal_fn, cal_W, cal_meth, cal_init, guard_nil, guard_int, guard_tup, guard_lst, boolsOf_map, Fm.inners, Fm.val, Fm.vals_map])
        show exs (cal P (run P (n + 1))) [_, _, _, _, _, _] [some (Fm.nn b fs).enc, some (strsD W), none, none, none] S = _
        rw [exs_nx (σ' := [some (Fm.nn b fs).enc, some (strsD W), some (.str w), none, none]) (S' := S) (by simp only [Fm.enc, hw]; (simp (decide := true) [exs, ex, ev, evs, evo, evc, bindT, bindL, getV, seqOf, de_str, de_int, de_bl, de_non, de_tup, de_lst, de_dic, de_inp, eqD_str, eqD_int, eqD_bl, bin_eq, bin_ne, bin_inn_tup, bin_inn_lst, bin_notin_tup, bin_notin_lst, bin_inn_str, bin_notin_str, bin_add_int, bin_sub_int, bin_add_tup, bin_add_lst, bin_lt_int, bin_gt_int, bin_le_int, bin_ge_int, bin_band, bin_bor, bin_shl, bin_shr, bin_mod, bin_fdiv, bin_mul_int, bin_mul_lst, bin_mul_tup, un_not, un_inv, idx_tup, idx_lst, idx_str, idx_dic, slc_tup, slc_lst, slc_inp, prim_len_tup, prim_len_lst, prim_len_str, prim_int_int, prim_int_bl, prim_tuple_lst, prim_tuple_tup, prim_list_lst, prim_list_tup, prim_all, prim_any, prim_sum, prim_max2, prim_sorted, prim_lr, prim_abs, atI_0, atI_1, atI_2, cut_from1, items_tup, items_lst, items_rng1, items_enum_tup, items_zip_tup, mk_f, mk_t, LIM, cal_fn, cal_W, cal_meth, cal_init, guard_nil, guard_int, guard_tup, guard_lst])), exs_nx (σ' := [some (Fm.nn b fs).enc, some (strsD W), some (.str w), none, none]) (S' := S) (by cases b <;> subst hw <;> (simp (decide := true) [exs, ex, ev, evs, evo, evc, bindT, bindL, getV, seqOf, de_str, de_int, de_bl, de_non, de_tup, de_lst, de_dic, de_inp, eqD_str, eqD_int, eqD_bl, bin_eq, bin_ne, bin_inn_tup, bin_inn_lst, bin_notin_tup, bin_notin_lst, bin_inn_str, bin_notin_str, bin_add_int, bin_sub_int, bin_add_tup, bin_add_lst, bin_lt_int, bin_gt_int, bin_le_int, bin_ge_int, bin_band, bin_bor, bin_shl, bin_shr, bin_mod, bin_fdiv, bin_mul_int, bin_mul_lst, bin_mul_tup, un_not, un_inv, idx_tup, idx_lst, idx_str, idx_dic, slc_tup, slc_lst, slc_inp, prim_len_tup, prim_len_lst, prim_len_str, prim_int_int, prim_int_bl, prim_tuple_lst, prim_tuple_tup, prim_list_lst, prim_list_tup, prim_all, prim_any, prim_sum, prim_max2, prim_sorted, prim_lr, prim_abs, atI_0, atI_1, atI_2, cut_from1, items_tup, items_lst, items_rng1, items_enum_tup, items_zip_tup, mk_f, mk_t, LIM, cal_fn, cal_W, cal_meth, cal_init, guard_nil, guard_int, guard_tup, guard_lst, m])), exs_nx (σ' := [some (Fm.nn b fs).enc, some (strsD W), some (.str w), none, none]) (S' := S) (by cases b <;> subst hw <;> (simp (decide := true) [exs, ex, ev, evs, evo, evc, bindT, bindL, getV, seqOf, de_str, de_int, de_bl, de_non, de_tup, de_lst, de_dic, de_inp, eqD_str, eqD_int, eqD_bl, bin_eq, bin_ne, bin_inn_tup, bin_inn_lst, bin_notin_tup, bin_notin_lst, bin_inn_str, bin_notin_str, bin_add_int, bin_sub_int, bin_add_tup, bin_add_lst, bin_lt_int, bin_gt_int, bin_le_int, bin_ge_int, bin_band, bin_bor, bin_shl, bin_shr, bin_mod, bin_fdiv, bin_mul_int, bin_mul_lst, bin_mul_tup, un_not, un_inv, idx_tup, idx_lst, idx_str, idx_dic, slc_tup, slc_lst, slc_inp, prim_len_tup, prim_len_lst, prim_len_str, prim_int_int, prim_int_bl, prim_tuple_lst, prim_tuple_tup, prim_list_lst, prim_list_tup, prim_all, prim_any, prim_sum, prim_max2, prim_sorted, prim_lr, prim_abs, atI_0, atI_1, atI_2, cut_from1, items_tup, items_lst, items_rng1, items_enum_tup, items_zip_tup, mk_f, mk_t, LIM, cal_fn, cal_W, cal_meth, cal_init, guard_nil, guard_int, guard_tup, guard_lst])), exs_nx (σ' := [some (Fm.nn b fs).enc, some (strsD W), some (.str w), some (.lst ((Fm.nn b fs).inners.map fun g => .bl (g.val (say W)))), none]) (S' := S) (ex_asg c0 rfl), exs_nx (σ' := [some (Fm.nn b fs).enc, some (strsD W), some (.str w), some (.lst ((Fm.nn b fs).inners.map fun g => .bl (g.val (say W)))), none]) (S' := S) (by cases b <;> subst hw <;> (simp (decide := true) [exs, ex, ev, evs, evo, evc, bindT, bindL, getV, seqOf, de_str, de_int, de_bl, de_non, de_tup, de_lst, de_dic, de_inp, eqD_str, eqD_int, eqD_bl, bin_eq, bin_ne, bin_inn_tup, bin_inn_lst, bin_notin_tup, bin_notin_lst, bin_inn_str, bin_notin_str, bin_add_int, bin_sub_int, bin_add_tup, bin_add_lst, bin_lt_int, bin_gt_int, bin_le_int, bin_ge_int, bin_band, bin_bor, bin_shl, bin_shr, bin_mod, bin_fdiv, bin_mul_int, bin_mul_lst, bin_mul_tup, un_not, un_inv, idx_tup, idx_lst, idx_str, idx_dic, slc_tup, slc_lst, slc_inp, prim_len_tup, prim_len_lst, prim_len_str, prim_int_int, prim_int_bl, prim_tuple_lst, prim_tuple_tup, prim_list_lst, prim_list_tup, prim_all, prim_any, prim_sum, prim_max2, prim_sorted, prim_lr, prim_abs, atI_0, atI_1, atI_2, cut_from1, items_tup, items_lst, items_rng1, items_enum_tup, items_zip_tup, mk_f, mk_t, LIM, cal_fn, cal_W, cal_meth, cal_init, guard_nil, guard_int, guard_tup, guard_lst])), exs_rt (ex_ret c1)]
      exact main _ rfl
  obtain ⟨σ, key⟩ := key
  rw [key, Option.bind_some]
  exact leaveF_py0 rfl
end Fw
end
section
set_option Elab.async false
set_option linter.all false
set_option autoImplicit false
set_option maxRecDepth 10000
set_option maxHeartbeats 2000000
/-! Pl17: the choices of claims. -/
namespace Fw
open PySem
def l23 : FD := ⟨1, 3, [
  .asg (.name 1) (.lst false [(.tup [])]),
  .for_ (.name 2) .seq [(.var 0)] [.asg (.name 1) (.b2 .add (.var 1) (.comp false (.b2 .add (.var 3) (.tup [(.var 2)])) (.name 3) .seq [(.var 1)] []))],
  .ret (.prim .sorted [(.var 1)])]⟩
def subsStep (rows : List (List Str)) (c : Str) : List (List Str) := rows ++ rows.map fun r => r ++ [c]
def subsL (cs : List Str) : List (List Str) := cs.foldl subsStep [[]]
theorem subsL_snoc (p : List Str) (c : Str) : subsL (p ++ [c]) = subsStep (subsL p) c := by
  unfold subsL; rw [List.foldl_append]; rfl
theorem subsL_length (p : List Str) : (subsL p).length = 2 ^ p.length := by
  have h : ∀ (p : List Str) (rows : List (List Str)), (p.foldl subsStep rows).length = rows.length * 2 ^ p.length := by
    intro p
    induction p with
    | nil => intro rows; simp
    | cons c p ih =>
      intro rows
      rw [List.foldl_cons, ih, subsStep, List.length_append, List.length_map, List.length_cons, Nat.pow_succ]
      rw [← Nat.two_mul, Nat.mul_comm 2, Nat.mul_assoc, Nat.mul_comm 2]
  have := h p [[]]
  rw [List.length_singleton, Nat.one_mul] at this
  exact this
theorem subsL_mem : ∀ (n : Nat) (p : List Str), p.length = n → ∀ W : List Str, W ∈ subsL p ↔ W.Sublist p
  | 0, p, hp, W => by
    have : p = [] := List.length_eq_zero_iff.mp hp
    subst this
    simp [subsL]
  | n + 1, p, hp, W => by
    have hne : p ≠ [] := by intro e; subst e; simp at hp
    obtain ⟨q, c, rfl⟩ : ∃ q c, p = q ++ [c] := ⟨p.dropLast, p.getLast hne, (List.dropLast_concat_getLast hne).symm⟩
    have hq : q.length = n := by simp at hp; exact hp
    rw [subsL_snoc, subsStep, List.mem_append, List.mem_map, subsL_mem n q hq, List.sublist_append_iff]
    constructor
    · rintro (h | ⟨r, hr, rfl⟩)
      · exact ⟨W, [], (List.append_nil _).symm, h, List.nil_sublist _⟩
      · exact ⟨r, [c], rfl, (subsL_mem n q hq r).mp hr, List.Sublist.refl _⟩
    · rintro ⟨r, s, rfl, hr, hs⟩
      have hs' : s = [] ∨ s = [c] := by
        cases hs with
        | cons _ h => left; exact List.sublist_nil.mp h
        | cons_cons _ h => right; rw [List.sublist_nil.mp h]
      rcases hs' with rfl | rfl
      · left; rwa [List.append_nil]
      · right; exact ⟨r, (subsL_mem n q hq r).mpr hr, rfl⟩
def unS : D → List Str
  | .tup xs => xs.map fun d => match d with | D.str z => z | _ => ⟨#[]⟩
  | _ => []
theorem unS_strs (W : List Str) : unS (strsD W) = W := by
  show (W.map D.str).map (fun d => match d with | D.str z => z | _ => ⟨#[]⟩) = W
  rw [List.map_map]
  simp [Function.comp_def]
/-- rows sorted are the rows, turned -/
theorem sortD_perm (rows : List (List Str)) : ∃ rows' : List (List Str), rows'.Perm rows ∧ sortD (rows.map strsD) = some (rows'.map strsD) := by
  have h := sortD_strs rows
  have e : (fun r : List Str => D.tup (r.map .str)) = strsD := rfl
  rw [e] at h
  have hp : ((rows.map strsD).mergeSort dle).Perm (rows.map strsD) := List.mergeSort_perm _ _
  refine ⟨((rows.map strsD).mergeSort dle).map unS, ?_, ?_⟩
  · have := hp.map unS
    rw [List.map_map] at this
    have e2 : unS ∘ strsD = id := by funext W; exact unS_strs W
    rw [e2, List.map_id] at this
    exact this
  · rw [h, List.map_map]
    congr 1
    refine (List.map_id _).symm.trans (List.map_congr_left fun d hd => ?_)
    obtain ⟨W, _, rfl⟩ := List.mem_map.mp (hp.mem_iff.mp hd)
    show strsD W = strsD (unS (strsD W))
    rw [unS_strs]
theorem subsets_spec {P : Prog} {i : Nat} (h : P.funs[i]? = some l23) (n : Nat) (cs : List Str) (S : Store) (hk : cs.length ≤ 6) :
    ∃ rows : List (List Str), rows.Perm (subsL cs) ∧ run P (n + 1) i [strsD cs] S = some (.lst (rows.map strsD), S) := by
  rw [run_eq h rfl]
  have p7 : ∀ p : List Str, p.length ≤ 7 → (subsL p).length ≤ 128 := fun p hp => by
    rw [subsL_length]; exact Nat.le_trans (Nat.pow_le_pow_right (by omega) hp) (by decide)
  have step : ∀ (p : List Str) (c : Str), p.length ≤ 6 → ev (cal P (run P n)) (.b2 .add (.var 1) (.comp false (.b2 .add (.var 3) (.tup [(.var 2)])) (.name 3) .seq [(.var 1)] [])) [some (strsD cs), some (.lst ((subsL p).map strsD)), some (.str c), none] S = some (.lst ((subsL (p ++ [c])).map strsD), S) := fun p c hp => by
    have l7 := p7 p (by omega)
    have l8 := p7 (p ++ [c]) (by simp; omega)
    have ec : ev (cal P (run P n)) (.comp false (.b2 .add (.var 3) (.tup [(.var 2)])) (.name 3) .seq [(.var 1)] []) [some (strsD cs), some (.lst ((subsL p).map strsD)), some (.str c), none] S = some (.lst ((subsL p).map fun r => strsD (r ++ [c])), S) := by
      rw [ev_comp (ds := [.lst ((subsL p).map strsD)]) (S1 := S) (xs := (subsL p).map strsD) rfl rfl, compL_mapc strsD (fun r => strsD (r ++ [c])) rfl]
      · simp only [Option.bind_some, mk_f, List.length_map]
        rw [if_pos (by unfold LIM; omega)]
      · intro r hr
        have hr' : r.length ≤ 6 := by
          have := ((subsL_mem _ p rfl r).mp hr).length_le
          omega
        have hl : r.length + 1 ≤ 16777216 := by omega
        unfold strsD
        (simp (decide := true) [exs, ex, ev, evs, evo, evc, bindT, bindL, getV, seqOf, de_str, de_int, de_bl, de_non, de_tup, de_lst, de_dic, de_inp, eqD_str, eqD_int, eqD_bl, bin_eq, bin_ne, bin_inn_tup, bin_inn_lst, bin_notin_tup, bin_notin_lst, bin_inn_str, bin_notin_str, bin_add_int, bin_sub_int, bin_add_tup, bin_add_lst, bin_lt_int, bin_gt_int, bin_le_int, bin_ge_int, bin_band, bin_bor, bin_shl, bin_shr, bin_mod, bin_fdiv, bin_mul_int, bin_mul_lst, bin_mul_tup, un_not, un_inv, idx_tup, idx_lst, idx_str, idx_dic, slc_tup, slc_lst, slc_inp, prim_len_tup, prim_len_lst, prim_len_str, prim_int_int, prim_int_bl, prim_tuple_lst, prim_tuple_tup, prim_list_lst, prim_list_tup, prim_all, prim_any, prim_sum, prim_max2, prim_sorted, prim_lr, prim_abs, atI_0, atI_1, atI_2, cut_from1, items_tup, items_lst, items_rng1, items_enum_tup, items_zip_tup, mk_f, mk_t, LIM, cal_fn, cal_W, cal_meth, cal_init, guard_nil, guard_int, guard_tup, guard_lst, hl])
    rw [ev, show ev (cal P (run P n)) (.var 1) [some (strsD cs), some (.lst ((subsL p).map strsD)), some (.str c), none] S = some (.lst ((subsL p).map strsD), S) from rfl]
    simp only [Option.bind_some, ec, de_lst, bin_add_lst, List.length_map]
    rw [subsL_snoc, subsStep, List.length_append, List.length_map] at l8
    rw [if_pos (by unfold LIM; omega), subsL_snoc, subsStep, List.map_append, List.map_map]
    rfl
  have loop := forL_inv (g := fun S' => guard S S' [strsD cs]) (t := .name 2) (body := fun σ S => exs (cal P (run P n)) [.asg (.name 1) (.b2 .add (.var 1) (.comp false (.b2 .add (.var 3) (.tup [(.var 2)])) (.name 3) .seq [(.var 1)] []))] σ S) D.str
    (fun r σ S' => S' = S ∧ ∃ p x, p ++ r = cs ∧ σ = [some (strsD cs), some (.lst ((subsL p).map strsD)), x, none])
    (fun res => ∃ x, res = some (.nx, [some (strsD cs), some (.lst ((subsL cs).map strsD)), x, none], S))
    (xs := cs) (σ := [some (strsD cs), some (.lst ((subsL []).map strsD)), none, none]) (S := S)
    ⟨rfl, [], none, rfl, rfl⟩
    (fun c r σ S' ⟨hS', p, x, hp, hσ⟩ => by
      subst hS' hσ
      have hl : p.length ≤ 6 := by rw [← hp] at hk; simp at hk; omega
      refine ⟨_, rfl, .inl ⟨[some (strsD cs), some (.lst ((subsL (p ++ [c])).map strsD)), some (.str c), none], S', .inl ?_, rfl, rfl, p ++ [c], _, by rw [← hp]; simp, rfl⟩⟩
      show exs _ [_] [some (strsD cs), some (.lst ((subsL p).map strsD)), some (.str c), none] S' = _
      rw [exs_nx (σ' := [some (strsD cs), some (.lst ((subsL (p ++ [c])).map strsD)), some (.str c), none]) (ex_asg (step p c hl) rfl), exs_nil])
    (fun σ S' ⟨hS', p, x, hp, hσ⟩ => by
      subst hS' hσ
      rw [List.append_nil] at hp
      subst hp
      exact ⟨x, rfl⟩)
  obtain ⟨x, e1⟩ := loop
  obtain ⟨rows, hperm, hsort⟩ := sortD_perm (subsL cs)
  refine ⟨rows, hperm, ?_⟩
  have key : (exs (cal P (run P n)) l23.body ([strsD cs].map some ++ List.replicate l23.nloc none) S) = some (.rt (.lst (rows.map strsD)), [some (strsD cs), some (.lst ((subsL cs).map strsD)), x, none], S) := by
    show exs (cal P (run P n)) [_, _, _] [some (strsD cs), none, none, none] S = _
    rw [exs_nx (σ' := [some (strsD cs), some (.lst ((subsL []).map strsD)), none, none]) (S' := S) (by (simp (decide := true) [exs, ex, ev, evs, evo, evc, bindT, bindL, getV, seqOf, de_str, de_int, de_bl, de_non, de_tup, de_lst, de_dic, de_inp, eqD_str, eqD_int, eqD_bl, bin_eq, bin_ne, bin_inn_tup, bin_inn_lst, bin_notin_tup, bin_notin_lst, bin_inn_str, bin_notin_str, bin_add_int, bin_sub_int, bin_add_tup, bin_add_lst, bin_lt_int, bin_gt_int, bin_le_int, bin_ge_int, bin_band, bin_bor, bin_shl, bin_shr, bin_mod, bin_fdiv, bin_mul_int, bin_mul_lst, bin_mul_tup, un_not, un_inv, idx_tup, idx_lst, idx_str, idx_dic, slc_tup, slc_lst, slc_inp, prim_len_tup, prim_len_lst, prim_len_str, prim_int_int, prim_int_bl, prim_tuple_lst, prim_tuple_tup, prim_list_lst, prim_list_tup, prim_all, prim_any, prim_sum, prim_max2, prim_sorted, prim_lr, prim_abs, atI_0, atI_1, atI_2, cut_from1, items_tup, items_lst, items_rng1, items_enum_tup, items_zip_tup, mk_f, mk_t, LIM, cal_fn, cal_W, cal_meth, cal_init, guard_nil, guard_int, guard_tup, guard_lst, subsL, strsD])),
      exs_nx (σ' := [some (strsD cs), some (.lst ((subsL cs).map strsD)), x, none]) (S' := S) (by
        rw [ex_for (ds := [strsD cs]) (S1 := S) (xs := cs.map .str) (evs_1 rfl) rfl]; exact e1)]
    exact exs_rt (ex_ret (ev_prim (evs_1 rfl) (by show prim .sorted [.lst _] = _; rw [prim_sorted, hsort]; rfl)))
  rw [key, Option.bind_some]
  refine leaveF_py0 ?_
  rw [D.isPy]
  exact isPys_of fun x hx => by obtain ⟨W, _, rfl⟩ := List.mem_map.mp hx; exact (Sx.strs W).py
end Fw
end
section
set_option Elab.async false
set_option linter.all false
set_option autoImplicit false
set_option maxRecDepth 10000
set_option maxHeartbeats 2000000
/-! Pl18: the numbers of a law. -/
namespace Fw
open PySem
def bodyA : List Stm := [.expr (.pm .append (.var 1) [(.b2 .mod (.prim .int [(.var 3)]) (.cst (.int 1009)))]), .asg (.name 3) (.b2 .fdiv (.var 3) (.cst (.int 1009))), .ife (.b2 .eq (.var 3) (.cst (.int 0))) [.brk] []]
def bodyB : List Stm := [.asg (.name 5) (.b2 .mod (.prim .int [(.b2 .add (.b2 .add (.b2 .mul (.var 5) (.cst (.int 48271))) (.b2 .mul (.cst (.int 7)) (.var 4))) (.cst (.int 11)))]) (.cst (.int 2147483647))), .expr (.pm .append (.var 1) [(.b2 .mod (.b2 .mod (.prim .int [(.b2 .add (.b2 .mul (.var 5) (.cst (.int 69621))) (.var 4))]) (.cst (.int 2147483629))) (.cst (.int 1009)))])]
def bodyO : List Stm := [.asg (.name 3) (.prim .abs [(.prim .int [(.var 2)])]), .ife (.b2 .ge (.var 3) (.b2 .pow (.cst (.int 10)) (.cst (.int 18)))) [.for_ (.name 4) .rng1 [(.cst (.int 60))] bodyA] [.asg (.name 5) (.b2 .mod (.prim .int [(.var 3)]) (.cst (.int 2147483647))), .for_ (.name 4) .rng1 [(.cst (.int 10))] bodyB]]
def l26 : FD := ⟨1, 5, [
  .asg (.name 1) (.lst true []),
  .for_ (.name 2) .seq [(.slc (.var 0) none (some (.cst (.int 63))))] bodyO,
  .ife (.b2 .eq (.prim .len [(.var 1)]) (.cst (.int 0))) [.expr (.pm .append (.var 1) [(.cst (.int 0))])] [],
  .ret (.var 1)]⟩
def intsC (nums : List Int) : Cell := .lst (nums.map .int)
theorem ev_append {C : Cal} {e : E} {σ : Ev} {S S1 : Store} {xs : List D} {d : D} {i : Nat} (hi : getV σ i = some (.ref S.length)) (he : ev C e σ (S ++ [.lst xs]) = some (d, S ++ [.lst xs])) (hl : xs.length < LIM) : ev C (.pm .append (.var i) [e]) σ (S ++ [.lst xs]) = some (.non, S ++ [.lst (xs ++ [d])]) := by
  rw [ev, ev, hi]
  simp only [Option.map_some, Option.bind_some, deref, app_get, pmOk, if_true, evs_1 he, pmV, app_set, hl]
theorem ev_append_int {C : Cal} {e : E} {σ : Ev} {S : Store} {nums : List Int} {z : Int} {i : Nat} (hi : getV σ i = some (.ref S.length)) (he : ev C e σ (S ++ [intsC nums]) = some (.int z, S ++ [intsC nums])) (hl : nums.length ≤ 100000) : ev C (.pm .append (.var i) [e]) σ (S ++ [intsC nums]) = some (.non, S ++ [intsC (nums ++ [z])]) := by
  have := ev_append (S1 := S) hi he (by rw [List.length_map]; unfold LIM; omega)
  unfold intsC at *
  rw [this, List.map_append]
  rfl
theorem bin_modI (x y : Int) (h : y ≠ 0) : bin .mod (.int x) (.int y) = some (.int (x.fmod y)) := by rw [bin_mod, decide_eq_true h]; rfl
theorem bin_fdivI (x y : Int) (h : y ≠ 0) (h2 : y.natAbs < 1073741824) : bin .fdiv (.int x) (.int y) = some (.int (x.fdiv y)) := by rw [bin_fdiv, decide_eq_true h, decide_eq_true h2]; rfl
theorem bin_pow18 : bin .pow (.int 10) (.int 18) = some (.int 1000000000000000000) := by rfl
theorem ev_int1 {C : Cal} {e : E} {σ : Ev} {S S1 : Store} {z : Int} (h : ev C e σ S = some (.int z, S1)) : ev C (.prim .int [e]) σ S = some (.int z, S1) := ev_prim (evs_1 h) (prim_int_int z)
theorem loopA {C : Cal} {scr x2 : Option D} (S : Store) (B : Nat) (hB : B ≤ 90000) : ∀ (nums : List Int) (rest : Int) (x4 x5 : Option D) (xs : List Nat), nums.length + xs.length ≤ B →
    ∃ nums' rest' x4', nums'.length ≤ B ∧ forL (fun S' => guard (S ++ [intsC nums]) S' [.int 60]) (.name 4) (fun σ s => exs C bodyA σ s) (xs.map fun i : Nat => D.int (i : Nat)) [scr, some (.ref S.length), x2, some (.int rest), x4, x5] (S ++ [intsC nums]) = some (.nx, [scr, some (.ref S.length), x2, some (.int rest'), x4', x5], S ++ [intsC nums']) := by
  intro nums rest x4 x5 xs hl
  have loop := forL_inv (g := fun S' => guard (S ++ [intsC nums]) S' [.int 60]) (t := .name 4) (body := fun σ s => exs C bodyA σ s) (fun i : Nat => D.int (i : Nat))
    (fun r σ S' => ∃ nums rest x4, nums.length + r.length ≤ B ∧ S' = S ++ [intsC nums] ∧ σ = [scr, some (.ref S.length), x2, some (.int rest), x4, x5])
    (fun res => ∃ nums' rest' x4', nums'.length ≤ B ∧ res = some (.nx, [scr, some (.ref S.length), x2, some (.int rest'), x4', x5], S ++ [intsC nums']))
    (xs := xs) (σ := [scr, some (.ref S.length), x2, some (.int rest), x4, x5]) (S := S ++ [intsC nums])
    ⟨nums, rest, x4, hl, rfl, rfl⟩
    (fun i r σ S' ⟨nums, rest, x4, hl, hS', hσ⟩ => by
      subst hS' hσ
      rw [List.length_cons] at hl
      refine ⟨[scr, some (.ref S.length), x2, some (.int rest), some (.int (i : Nat)), x5], rfl, ?_⟩
      have e1 : ex C (.expr (.pm .append (.var 1) [(.b2 .mod (.prim .int [(.var 3)]) (.cst (.int 1009)))])) [scr, some (.ref S.length), x2, some (.int rest), some (.int (i : Nat)), x5] (S ++ [intsC nums]) = some (.nx, [scr, some (.ref S.length), x2, some (.int rest), some (.int (i : Nat)), x5], S ++ [intsC (nums ++ [rest.fmod 1009])]) :=
        ex_expr (ev_append_int rfl (ev_b2i (ev_int1 rfl) rfl (bin_modI rest 1009 (by omega))) (by omega))
      have e2 : ex C (.asg (.name 3) (.b2 .fdiv (.var 3) (.cst (.int 1009)))) [scr, some (.ref S.length), x2, some (.int rest), some (.int (i : Nat)), x5] (S ++ [intsC (nums ++ [rest.fmod 1009])]) = some (.nx, [scr, some (.ref S.length), x2, some (.int (rest.fdiv 1009)), some (.int (i : Nat)), x5], S ++ [intsC (nums ++ [rest.fmod 1009])]) :=
        ex_asg (ev_b2i (i := rest) (j := 1009) rfl rfl (bin_fdivI rest 1009 (by omega) (by omega))) rfl
      have e3 : ev C (.b2 .eq (.var 3) (.cst (.int 0))) [scr, some (.ref S.length), x2, some (.int (rest.fdiv 1009)), some (.int (i : Nat)), x5] (S ++ [intsC (nums ++ [rest.fmod 1009])]) = some (.bl (decide (rest.fdiv 1009 = 0)), S ++ [intsC (nums ++ [rest.fmod 1009])]) :=
        ev_b2i (i := rest.fdiv 1009) (j := 0) rfl rfl (by rw [bin_eq, eqD_int]; rfl)
      by_cases z : rest.fdiv 1009 = 0
      · rw [decide_eq_true z] at e3
        refine .inr (.inl ⟨_, _, ?_, nums ++ [rest.fmod 1009], rest.fdiv 1009, some (.int (i : Nat)), by simp; omega, rfl⟩)
        show exs C [_, _, _] _ _ = _
        rw [exs_nx e1, exs_nx e2, exs_bk (by rw [ex_if_t e3]; rfl)]
      · rw [decide_eq_false z] at e3
        refine .inl ⟨[scr, some (.ref S.length), x2, some (.int (rest.fdiv 1009)), some (.int (i : Nat)), x5], S ++ [intsC (nums ++ [rest.fmod 1009])], .inl ?_, rfl, nums ++ [rest.fmod 1009], rest.fdiv 1009, some (.int (i : Nat)), by simp; omega, rfl, rfl⟩
        show exs C [_, _, _] _ _ = _
        rw [exs_nx e1, exs_nx e2, exs_nx (σ' := [scr, some (.ref S.length), x2, some (.int (rest.fdiv 1009)), some (.int (i : Nat)), x5]) (S' := S ++ [intsC (nums ++ [rest.fmod 1009])]) (by rw [ex_if_f e3, exs_nil]), exs_nil])
    (fun σ S' ⟨nums, rest, x4, hl, hS', hσ⟩ => by
      subst hS' hσ
      exact ⟨nums, rest, x4, by simpa using hl, rfl⟩)
  exact loop
theorem loopB {C : Cal} {scr x2 x3 : Option D} (S : Store) (B : Nat) (hB : B ≤ 90000) : ∀ (nums : List Int) (st : Int) (x4 : Option D) (xs : List Nat), nums.length + xs.length ≤ B →
    ∃ nums' st' x4', nums'.length ≤ B ∧ forL (fun S' => guard (S ++ [intsC nums]) S' [.int 10]) (.name 4) (fun σ s => exs C bodyB σ s) (xs.map fun i : Nat => D.int (i : Nat)) [scr, some (.ref S.length), x2, x3, x4, some (.int st)] (S ++ [intsC nums]) = some (.nx, [scr, some (.ref S.length), x2, x3, x4', some (.int st')], S ++ [intsC nums']) := by
  intro nums st x4 xs hl
  have loop := forL_inv (g := fun S' => guard (S ++ [intsC nums]) S' [.int 10]) (t := .name 4) (body := fun σ s => exs C bodyB σ s) (fun i : Nat => D.int (i : Nat))
    (fun r σ S' => ∃ nums st x4, nums.length + r.length ≤ B ∧ S' = S ++ [intsC nums] ∧ σ = [scr, some (.ref S.length), x2, x3, x4, some (.int st)])
    (fun res => ∃ nums' st' x4', nums'.length ≤ B ∧ res = some (.nx, [scr, some (.ref S.length), x2, x3, x4', some (.int st')], S ++ [intsC nums']))
    (xs := xs) (σ := [scr, some (.ref S.length), x2, x3, x4, some (.int st)]) (S := S ++ [intsC nums])
    ⟨nums, st, x4, hl, rfl, rfl⟩
    (fun i r σ S' ⟨nums, st, x4, hl, hS', hσ⟩ => by
      subst hS' hσ
      rw [List.length_cons] at hl
      refine ⟨[scr, some (.ref S.length), x2, x3, some (.int (i : Nat)), some (.int st)], rfl, ?_⟩
      obtain ⟨st2, h2⟩ : ∃ z : Int, (st * 48271 + 7 * ((i : Nat) : Int) + 11).fmod 2147483647 = z := ⟨_, rfl⟩
      obtain ⟨w, hw⟩ : ∃ z : Int, ((st2 * 69621 + ((i : Nat) : Int)).fmod 2147483629).fmod 1009 = z := ⟨_, rfl⟩
      have e1 : ex C (.asg (.name 5) (.b2 .mod (.prim .int [(.b2 .add (.b2 .add (.b2 .mul (.var 5) (.cst (.int 48271))) (.b2 .mul (.cst (.int 7)) (.var 4))) (.cst (.int 11)))]) (.cst (.int 2147483647)))) [scr, some (.ref S.length), x2, x3, some (.int (i : Nat)), some (.int st)] (S ++ [intsC nums]) = some (.nx, [scr, some (.ref S.length), x2, x3, some (.int (i : Nat)), some (.int st2)], S ++ [intsC nums]) := by
        refine ex_asg (d := .int st2) ?_ rfl
        rw [← h2]
        exact ev_b2i (ev_int1 (ev_b2i (ev_b2i (ev_b2i (i := st) (j := 48271) rfl rfl (bin_mulS _ _ (by omega) (by omega))) (ev_b2i (i := 7) (j := (i : Nat)) rfl rfl (bin_mulT _ _ (by omega) (by omega))) (bin_add_int _ _)) rfl (bin_add_int _ _))) rfl (bin_modI _ 2147483647 (by omega))
      have e2 : ex C (.expr (.pm .append (.var 1) [(.b2 .mod (.b2 .mod (.prim .int [(.b2 .add (.b2 .mul (.var 5) (.cst (.int 69621))) (.var 4))]) (.cst (.int 2147483629))) (.cst (.int 1009)))])) [scr, some (.ref S.length), x2, x3, some (.int (i : Nat)), some (.int st2)] (S ++ [intsC nums]) = some (.nx, [scr, some (.ref S.length), x2, x3, some (.int (i : Nat)), some (.int st2)], S ++ [intsC (nums ++ [w])]) := by
        refine ex_expr (ev_append_int rfl ?_ (by omega))
        rw [← hw]
        exact ev_b2i (ev_b2i (ev_int1 (ev_b2i (ev_b2i (i := st2) (j := 69621) rfl rfl (bin_mulS _ _ (by omega) (by omega))) (j := (i : Nat)) rfl (bin_add_int _ _))) rfl (bin_modI _ 2147483629 (by omega))) rfl (bin_modI _ 1009 (by omega))
      refine .inl ⟨[scr, some (.ref S.length), x2, x3, some (.int (i : Nat)), some (.int st2)], S ++ [intsC (nums ++ [w])], .inl ?_, rfl, nums ++ [w], st2, some (.int (i : Nat)), by simp; omega, rfl, rfl⟩
      show exs C [_, _] _ _ = _
      rw [exs_nx e1, exs_nx e2, exs_nil])
    (fun σ S' ⟨nums, st, x4, hl, hS', hσ⟩ => by
      subst hS' hσ
      exact ⟨nums, st, x4, by simpa using hl, rfl⟩)
  exact loop
end Fw
end
section
set_option Elab.async false
set_option linter.all false
set_option autoImplicit false
set_option maxRecDepth 10000
set_option maxHeartbeats 2000000
/-! Pl19: the numbers of a law, the whole. -/
namespace Fw
open PySem
theorem leaveF_newInts {S : Store} {σ : Ev} (nums : List Int) : leaveF S (.rt (.ref S.length), σ, S ++ [intsC nums]) = some (.lst (nums.map .int), S) := by
  have hu : unref S.length (S ++ [intsC nums]) (.ref S.length) = .lst (nums.map .int) := by
    simp [unref, noFro, deref, app_get, intsC]
  have hp : (D.lst (nums.map .int)).isPy = true := by rw [D.isPy]; exact ints_py nums
  unfold leaveF
  simp only [Option.bind_some, leave, hu, okR_py.1 _ S.length hp, if_true, keepOk_app, List.take_left']
theorem ok60 : okRng 0 60 = true := okRng_of (by omega) (by omega) (by omega) (by omega)
theorem ok10 : okRng 0 10 = true := okRng_of (by omega) (by omega) (by omega) (by omega)
theorem stream_spec {P : Prog} {i : Nat} (h : P.funs[i]? = some l26) (n : Nat) (ns : List Int) (S : Store) (hl : ns.length ≤ 63) : ∃ nums, StOk nums ∧ run P (n + 1) i [.inp (ns.map .int)] S = some (.lst (nums.map .int), S) := by
  rw [run_eq h rfl]
  have cutE : cut (ns.map D.int) none (some 63) = ns.map D.int := by
    have := cut_to (ns.map D.int) 63
    rw [show ((63 : Nat) : Int) = 63 from rfl] at this
    rw [this, List.take_of_length_le (by rw [List.length_map]; exact hl)]
  have loop := forL_inv (g := fun S' => guard (S ++ [intsC []]) S' [.lst (ns.map .int)]) (t := .name 2) (body := fun σ s => exs (cal P (run P n)) bodyO σ s) D.int
    (fun r σ S' => ∃ nums x2 x3 x4 x5, nums.length + 60 * r.length ≤ 3780 ∧ S' = S ++ [intsC nums] ∧ σ = [some (.inp (ns.map .int)), some (.ref S.length), x2, x3, x4, x5])
    (fun res => ∃ nums x2 x3 x4 x5, nums.length ≤ 3780 ∧ res = some (.nx, [some (.inp (ns.map .int)), some (.ref S.length), x2, x3, x4, x5], S ++ [intsC nums]))
    (xs := ns) (σ := [some (.inp (ns.map .int)), some (.ref S.length), none, none, none, none]) (S := S ++ [intsC []])
    ⟨[], none, none, none, none, by simp; omega, rfl, rfl⟩
    (fun z r σ S' ⟨nums, x2, x3, x4, x5, hb, hS', hσ⟩ => by
      subst hS' hσ
      rw [List.length_cons] at hb
      refine ⟨[some (.inp (ns.map .int)), some (.ref S.length), some (.int z), x3, x4, x5], rfl, ?_⟩
      obtain ⟨rest, hr⟩ : ∃ q : Int, (if z < 0 then -z else z) = q := ⟨_, rfl⟩
      have e1 : ex (cal P (run P n)) (.asg (.name 3) (.prim .abs [(.prim .int [(.var 2)])])) [some (.inp (ns.map .int)), some (.ref S.length), some (.int z), x3, x4, x5] (S ++ [intsC nums]) = some (.nx, [some (.inp (ns.map .int)), some (.ref S.length), some (.int z), some (.int rest), x4, x5], S ++ [intsC nums]) := by
        refine ex_asg (d := .int rest) (ev_prim (evs_1 (ev_int1 rfl)) ?_) rfl
        rw [← hr]
        exact prim_abs z
      have ec : ev (cal P (run P n)) (.b2 .ge (.var 3) (.b2 .pow (.cst (.int 10)) (.cst (.int 18)))) [some (.inp (ns.map .int)), some (.ref S.length), some (.int z), some (.int rest), x4, x5] (S ++ [intsC nums]) = some (.bl (decide ((1000000000000000000 : Int) ≤ rest)), S ++ [intsC nums]) :=
        ev_b2i (i := rest) (j := 1000000000000000000) rfl (ev_b2i (i := 10) (j := 18) rfl rfl bin_pow18) (bin_ge_int _ _)
      by_cases hz : (1000000000000000000 : Int) ≤ rest
      · rw [decide_eq_true hz] at ec
        obtain ⟨nums', rest', x4', hl', eA⟩ := loopA (C := cal P (run P n)) (scr := some (.inp (ns.map .int))) (x2 := some (.int z)) S (nums.length + 60) (by omega) nums rest x4 x5 (List.range 60) (by simp)
        refine .inl ⟨[some (.inp (ns.map .int)), some (.ref S.length), some (.int z), some (.int rest'), x4', x5], S ++ [intsC nums'], .inl ?_, rfl, nums', _, _, _, _, by omega, rfl, rfl⟩
        show exs _ [_, _] _ _ = _
        rw [exs_nx e1]
        rw [exs_nx (σ' := [some (.inp (ns.map .int)), some (.ref S.length), some (.int z), some (.int rest'), x4', x5]) (S' := S ++ [intsC nums']) (by
          rw [ex_if_t ec]
          rw [exs_nx (σ' := [some (.inp (ns.map .int)), some (.ref S.length), some (.int z), some (.int rest'), x4', x5]) (S' := S ++ [intsC nums']) (by
            rw [ex_for (ds := [.int 60]) (S1 := S ++ [intsC nums]) (evs_1 rfl) (by rw [items_rng1, if_pos ok60, show (60 : Int) = ((60 : Nat) : Int) from rfl, rng0])]
            exact eA), exs_nil]), exs_nil]
      · rw [decide_eq_false hz] at ec
        obtain ⟨st, hst⟩ : ∃ q : Int, rest.fmod 2147483647 = q := ⟨_, rfl⟩
        have e5 : ex (cal P (run P n)) (.asg (.name 5) (.b2 .mod (.prim .int [(.var 3)]) (.cst (.int 2147483647)))) [some (.inp (ns.map .int)), some (.ref S.length), some (.int z), some (.int rest), x4, x5] (S ++ [intsC nums]) = some (.nx, [some (.inp (ns.map .int)), some (.ref S.length), some (.int z), some (.int rest), x4, some (.int st)], S ++ [intsC nums]) := by
          refine ex_asg (d := .int st) ?_ rfl
          rw [← hst]
          exact ev_b2i (ev_int1 rfl) rfl (bin_modI rest 2147483647 (by omega))
        obtain ⟨nums', st', x4', hl', eB⟩ := loopB (C := cal P (run P n)) (scr := some (.inp (ns.map .int))) (x2 := some (.int z)) (x3 := some (.int rest)) S (nums.length + 10) (by omega) nums st x4 (List.range 10) (by simp)
        refine .inl ⟨[some (.inp (ns.map .int)), some (.ref S.length), some (.int z), some (.int rest), x4', some (.int st')], S ++ [intsC nums'], .inl ?_, rfl, nums', _, _, _, _, by omega, rfl, rfl⟩
        show exs _ [_, _] _ _ = _
        rw [exs_nx e1]
        rw [exs_nx (σ' := [some (.inp (ns.map .int)), some (.ref S.length), some (.int z), some (.int rest), x4', some (.int st')]) (S' := S ++ [intsC nums']) (by
          rw [ex_if_f ec, exs_nx e5]
          rw [exs_nx (σ' := [some (.inp (ns.map .int)), some (.ref S.length), some (.int z), some (.int rest), x4', some (.int st')]) (S' := S ++ [intsC nums']) (by
            rw [ex_for (ds := [.int 10]) (S1 := S ++ [intsC nums]) (evs_1 rfl) (by rw [items_rng1, if_pos ok10, show (10 : Int) = ((10 : Nat) : Int) from rfl, rng0])]
            exact eB), exs_nil]), exs_nil])
    (fun σ S' ⟨nums, x2, x3, x4, x5, hb, hS', hσ⟩ => by
      subst hS' hσ
      exact ⟨nums, x2, x3, x4, x5, by simpa using hb, rfl⟩)
  obtain ⟨nums, x2, x3, x4, x5, hlen, e1⟩ := loop
  have dS : ∀ nums : List Int, deref (S ++ [intsC nums]) (.ref S.length) = .lst (nums.map .int) := fun nums => by simp [deref, app_get, intsC]
  have el : ev (cal P (run P n)) (.b2 .eq (.prim .len [(.var 1)]) (.cst (.int 0))) [some (.inp (ns.map .int)), some (.ref S.length), x2, x3, x4, x5] (S ++ [intsC nums]) = some (.bl (decide (((nums.length : Nat) : Int) = 0)), S ++ [intsC nums]) :=
    ev_b2i (i := (nums.length : Nat)) (j := 0) (ev_prim (evs_1 rfl) (by show prim .len [deref (S ++ [intsC nums]) (.ref S.length)] = _; rw [dS, prim_len_lst, List.length_map])) rfl (by rw [bin_eq, eqD_int]; rfl)
  have start : ∀ res, exs (cal P (run P n)) [.ife (.b2 .eq (.prim .len [(.var 1)]) (.cst (.int 0))) [.expr (.pm .append (.var 1) [(.cst (.int 0))])] [], .ret (.var 1)] [some (.inp (ns.map .int)), some (.ref S.length), x2, x3, x4, x5] (S ++ [intsC nums]) = res → exs (cal P (run P n)) l26.body ([.inp (ns.map .int)].map some ++ List.replicate l26.nloc none) S = res := fun res hres => by
    show exs (cal P (run P n)) [_, _, _, _] [some (.inp (ns.map .int)), none, none, none, none, none] S = _
    rw [exs_nx (σ' := [some (.inp (ns.map .int)), some (.ref S.length), none, none, none, none]) (S' := S ++ [intsC []]) (by
      refine ex_asg (d := .ref S.length) ?_ rfl
      rw [ev]
      simp only [evs, Option.bind_some, mk_t]
      rfl),
      exs_nx (σ' := [some (.inp (ns.map .int)), some (.ref S.length), x2, x3, x4, x5]) (S' := S ++ [intsC nums]) (by
        rw [ex_for (ds := [.lst (ns.map .int)]) (S1 := S ++ [intsC []]) (xs := ns.map .int) (evs_1 (by
          rw [ev]
          simp only [ev, evo, getV, List.getElem?_cons_zero, Option.join_some, Option.map_some, Option.bind_some, de_inp, slc_inp]
          rw [cutE])) rfl]
        exact e1)]
    exact hres
  by_cases h0 : nums = []
  · subst h0
    refine ⟨[0], ⟨by simp, by simp⟩, ?_⟩
    have et := ev_append_int (C := cal P (run P n)) (e := .cst (.int 0)) (σ := [some (.inp (ns.map .int)), some (.ref S.length), x2, x3, x4, x5]) (S := S) (nums := []) (z := 0) (i := 1) rfl rfl (by simp)
    have key := start (some (.rt (.ref S.length), [some (.inp (ns.map .int)), some (.ref S.length), x2, x3, x4, x5], S ++ [intsC [0]])) (by
      rw [exs_nx (σ' := [some (.inp (ns.map .int)), some (.ref S.length), x2, x3, x4, x5]) (S' := S ++ [intsC [0]]) (by
        rw [ex_if_t (by rw [el]; rfl), exs_nx (ex_expr et), exs_nil]
        rfl)]
      exact exs_rt (ex_ret rfl))
    rw [key, Option.bind_some]
    exact leaveF_newInts [0]
  · refine ⟨nums, ⟨h0, by omega⟩, ?_⟩
    have hne : ¬ (((nums.length : Nat) : Int) = 0) := by
      have := List.length_pos_iff.mpr h0
      omega
    rw [decide_eq_false hne] at el
    have key := start (some (.rt (.ref S.length), [some (.inp (ns.map .int)), some (.ref S.length), x2, x3, x4, x5], S ++ [intsC nums])) (by
      rw [exs_nx (σ' := [some (.inp (ns.map .int)), some (.ref S.length), x2, x3, x4, x5]) (S' := S ++ [intsC nums]) (by rw [ex_if_f el, exs_nil])]
      exact exs_rt (ex_ret rfl))
    rw [key, Option.bind_some]
    exact leaveF_newInts nums
end Fw
end
section
set_option Elab.async false
set_option linter.all false
set_option autoImplicit false
set_option maxRecDepth 10000
set_option maxHeartbeats 2000000
/-! Pl20: a formula drawn. -/
namespace Fw
open PySem
mutual
/-- no `not` -/
def Fm.pos : Fm → Bool
  | .nt _ => false
  | .nn _ fs => Fm.poss fs
  | _ => true
def Fm.poss : List Fm → Bool
  | [] => true
  | f :: fs => f.pos && Fm.poss fs
end
mutual
/-- claims only under one `not` -/
def Fm.neg : Fm → Bool
  | .cl _ => false
  | .nt (.cl _) => true
  | .nt _ => false
  | .nn _ fs => Fm.negs fs
  | _ => true
def Fm.negs : List Fm → Bool
  | [] => true
  | f :: fs => f.neg && Fm.negs fs
end
structure Made (mode : Nat) (cs : List Str) (d : Nat) (f : Fm) : Prop where
  wf : f.wf cs = true
  pts : f.parts + 1 ≤ 3 * 2 ^ d
  dep : f.dep ≤ d + 1
  pos : mode = 0 → f.pos = true
  neg : mode = 1 → f.neg = true
def leafE (x : Nat) : E := .idx (.lst false [(.var 5), (.var 5), (.tup [(.cst (.str "not")), (.var 5)]), (.idx (.lst false [(.var 5), (.tup [(.cst (.str "not")), (.var 5)])]) (.call x [(.var 0), (.cst (.int 2))]))]) (.idx (.lst false [(.cst (.int 0)), (.cst (.int 2)), (.cst (.int 3))]) (.var 3))
def l27 (x p : Nat) : FD := ⟨4, 3, [
  .asg (.name 4) (.call x [(.var 0), (.cst (.int 6))]),
  .ife (.or (.b2 .eq (.var 2) (.cst (.int 0))) (.or (.b2 .lt (.var 4) (.cst (.int 2))) (.b2 .eq (.prim .len [(.var 1)]) (.cst (.int 0))))) [.ife (.or (.b2 .eq (.prim .len [(.var 1)]) (.cst (.int 0))) (.b2 .eq (.call x [(.var 0), (.cst (.int 8))]) (.cst (.int 0)))) [.ret (.tup [(.idx (.lst false [(.cst (.str "true")), (.cst (.str "false"))]) (.call x [(.var 0), (.cst (.int 2))]))])] [], .asg (.name 5) (.tup [(.cst (.str "claim")), (.idx (.var 1) (.call x [(.var 0), (.prim .len [(.var 1)])]))]), .ret (leafE x)] [],
  .ret (.tup [(.idx (.lst false [(.cst (.str "and")), (.cst (.str "or"))]) (.b2 .mod (.prim .int [(.var 4)]) (.cst (.int 2)))), (.prim .tuple [(.comp false (.call p [(.var 0), (.var 1), (.b2 .sub (.var 2) (.cst (.int 1))), (.var 3)]) (.name 6) .rng1 [(.cst (.int 2))] [])])])]⟩
theorem ev_draw {P : Prog} {x : Nat} (hx : P.funs[x]? = some l22) {nums : List Int} (hn : StOk nums) {S : Store} {r : Nat} (hr : r < S.length) (n c m : Nat) (hc : c < 1000000000) (hm : 0 < m) {e : E} {σ : Ev} (h0 : getV σ 0 = some (.ref r)) (he : ev (cal P (run P (n + 1))) e σ (S.set r (stC nums c)) = some (.int (m : Nat), S.set r (stC nums c))) :
    ∃ v : Nat, v < m ∧ ev (cal P (run P (n + 1))) (.call x [(.var 0), e]) σ (S.set r (stC nums c)) = some (.int (v : Nat), S.set r (stC nums (c + 1))) := by
  obtain ⟨v, hv, h⟩ := next1 hx n r m c nums (S.set r (stC nums c)) hn hc hm (by rw [List.getElem?_set_self hr])
  rw [List.set_set] at h
  refine ⟨v, hv, ev_call (evs_2 (d := .ref r) (S1 := S.set r (stC nums c)) (by rw [ev, h0]; rfl) he) h⟩
theorem ev_pick2 {C : Cal} {a b i : E} {σ : Ev} {S S1 : Store} {x y : D} {v : Nat} (ha : ∀ S, evs C [a, b] σ S = some ([x, y], S)) (hi : ev C i σ S = some (.int (v : Nat), S1)) (hv : v < 2) : ev C (.idx (.lst false [a, b]) i) σ S = some (if v = 0 then x else y, S1) := by
  rw [ev, ev, ha]
  simp only [Option.bind_some, mk_f]
  rw [if_pos (by unfold LIM; simp)]
  simp only [Option.bind_some, hi, de_lst, idx_lst, atI_nat]
  match v, hv with
  | 0, _ => rfl
  | 1, _ => rfl
theorem leaf_spec {P : Prog} {x : Nat} (hx : P.funs[x]? = some l22) {nums : List Int} (hn : StOk nums) {S : Store} {r : Nat} (hr : r < S.length) (n c : Nat) (hc : c < 1000000000) {cs : List Str} {q : Str} (hq : q ∈ cs) (mode : Nat) (hm : mode < 3) (d : Nat) (x1 x2 x4 x6 : Option D) :
    ∃ f, Made mode cs d f ∧ ev (cal P (run P (n + 1))) (leafE x) [some (.ref r), x1, x2, some (.int (mode : Nat)), x4, some (Fm.cl q).enc, x6] (S.set r (stC nums c)) = some (f.enc, S.set r (stC nums (c + 1))) := by
  obtain ⟨v, hv, hd⟩ := ev_draw hx hn hr n c 2 hc (by omega) (e := .cst (.int 2)) (σ := [some (.ref r), x1, x2, some (.int (mode : Nat)), x4, some (Fm.cl q).enc, x6]) rfl rfl
  have p2 : 2 ≤ 3 * 2 ^ d ∧ 3 ≤ 3 * 2 ^ d := by have := Nat.one_le_two_pow (n := d); omega
  have mc : mode ≠ 1 → Made mode cs d (.cl q) := fun h => ⟨by simp [Fm.wf, hq], by simp [Fm.parts]; omega, by simp [Fm.dep], fun _ => rfl, fun e => absurd e h⟩
  have mn : mode ≠ 0 → Made mode cs d (.nt (.cl q)) := fun h => ⟨by simp [Fm.wf, hq], by simp [Fm.parts]; omega, by simp [Fm.dep], fun e => absurd e h, fun _ => rfl⟩
  have e5 : ∀ S, ev (cal P (run P (n + 1))) (.var 5) [some (.ref r), x1, x2, some (.int (mode : Nat)), x4, some (Fm.cl q).enc, x6] S = some ((Fm.cl q).enc, S) := fun S => rfl
  have en : ∀ S, ev (cal P (run P (n + 1))) (.tup [(.cst (.str "not")), (.var 5)]) [some (.ref r), x1, x2, some (.int (mode : Nat)), x4, some (Fm.cl q).enc, x6] S = some ((Fm.nt (.cl q)).enc, S) := fun S => by simp only [Fm.enc]; (simp (decide := true) [exs, ex, ev, evs, evo, evc, bindT, bindL, getV, seqOf, de_str, de_int, de_bl, de_non, de_tup, de_lst, de_dic, de_inp, eqD_str, eqD_int, eqD_bl, bin_eq, bin_ne, bin_inn_tup, bin_inn_lst, bin_notin_tup, bin_notin_lst, bin_inn_str, bin_notin_str, bin_add_int, bin_sub_int, bin_add_tup, bin_add_lst, bin_lt_int, bin_gt_int, bin_le_int, bin_ge_int, bin_band, bin_bor, bin_shl, bin_shr, bin_mod, bin_fdiv, bin_mul_int, bin_mul_lst, bin_mul_tup, un_not, un_inv, idx_tup, idx_lst, idx_str, idx_dic, slc_tup, slc_lst, slc_inp, prim_len_tup, prim_len_lst, prim_len_str, prim_int_int, prim_int_bl, prim_tuple_lst, prim_tuple_tup, prim_list_lst, prim_list_tup, prim_all, prim_any, prim_sum, prim_max2, prim_sorted, prim_lr, prim_abs, atI_0, atI_1, atI_2, cut_from1, items_tup, items_lst, items_rng1, items_enum_tup, items_zip_tup, mk_f, mk_t, LIM, cal_fn, cal_W, cal_meth, cal_init, guard_nil, guard_int, guard_tup, guard_lst])
  have ep := ev_pick2 (fun S => evs_2 (e5 S) (en S)) hd hv
  have key : ev (cal P (run P (n + 1))) (leafE x) [some (.ref r), x1, x2, some (.int (mode : Nat)), x4, some (Fm.cl q).enc, x6] (S.set r (stC nums c)) = some (([(Fm.cl q).enc, (Fm.nt (.cl q)).enc, (if v = 0 then (Fm.cl q).enc else (Fm.nt (.cl q)).enc)][mode]?).getD .non, S.set r (stC nums (c + 1))) := by
    unfold leafE
    rw [ev]
    have e4 : evs (cal P (run P (n + 1))) [(.var 5), (.var 5), (.tup [(.cst (.str "not")), (.var 5)]), (.idx (.lst false [(.var 5), (.tup [(.cst (.str "not")), (.var 5)])]) (.call x [(.var 0), (.cst (.int 2))]))] [some (.ref r), x1, x2, some (.int (mode : Nat)), x4, some (Fm.cl q).enc, x6] (S.set r (stC nums c)) = some ([(Fm.cl q).enc, (Fm.cl q).enc, (Fm.nt (.cl q)).enc, (if v = 0 then (Fm.cl q).enc else (Fm.nt (.cl q)).enc)], S.set r (stC nums (c + 1))) := by
      rw [evs, e5]
      · simp only [Option.bind_some]
        rw [evs, e5]
        · simp only [Option.bind_some]
          rw [evs_2 (en _) ep]
          rfl
        · intro e h; cases h
      · intro e h; cases h
    rw [ev, e4]
    simp only [Option.bind_some, mk_f]
    rw [if_pos (by unfold LIM; simp)]
    match mode, hm with
    | 0, _ => simp only [Option.bind_some]; (simp (decide := true) [exs, ex, ev, evs, evo, evc, bindT, bindL, getV, seqOf, de_str, de_int, de_bl, de_non, de_tup, de_lst, de_dic, de_inp, eqD_str, eqD_int, eqD_bl, bin_eq, bin_ne, bin_inn_tup, bin_inn_lst, bin_notin_tup, bin_notin_lst, bin_inn_str, bin_notin_str, bin_add_int, bin_sub_int, bin_add_tup, bin_add_lst, bin_lt_int, bin_gt_int, bin_le_int, bin_ge_int, bin_band, bin_bor, bin_shl, bin_shr, bin_mod, bin_fdiv, bin_mul_int, bin_mul_lst, bin_mul_tup, un_not, un_inv, idx_tup, idx_lst, idx_str, idx_dic, slc_tup, slc_lst, slc_inp, prim_len_tup, prim_len_lst, prim_len_str, prim_int_int, prim_int_bl, prim_tuple_lst, prim_tuple_tup, prim_list_lst, prim_list_tup, prim_all, prim_any, prim_sum, prim_max2, prim_sorted, prim_lr, prim_abs, atI_0, atI_1, atI_2, cut_from1, items_tup, items_lst, items_rng1, items_enum_tup, items_zip_tup, mk_f, mk_t, LIM, cal_fn, cal_W, cal_meth, cal_init, guard_nil, guard_int, guard_tup, guard_lst])
    | 1, _ => simp only [Option.bind_some]; (simp (decide := true) [exs, ex, ev, evs, evo, evc, bindT, bindL, getV, seqOf, de_str, de_int, de_bl, de_non, de_tup, de_lst, de_dic, de_inp, eqD_str, eqD_int, eqD_bl, bin_eq, bin_ne, bin_inn_tup, bin_inn_lst, bin_notin_tup, bin_notin_lst, bin_inn_str, bin_notin_str, bin_add_int, bin_sub_int, bin_add_tup, bin_add_lst, bin_lt_int, bin_gt_int, bin_le_int, bin_ge_int, bin_band, bin_bor, bin_shl, bin_shr, bin_mod, bin_fdiv, bin_mul_int, bin_mul_lst, bin_mul_tup, un_not, un_inv, idx_tup, idx_lst, idx_str, idx_dic, slc_tup, slc_lst, slc_inp, prim_len_tup, prim_len_lst, prim_len_str, prim_int_int, prim_int_bl, prim_tuple_lst, prim_tuple_tup, prim_list_lst, prim_list_tup, prim_all, prim_any, prim_sum, prim_max2, prim_sorted, prim_lr, prim_abs, atI_0, atI_1, atI_2, cut_from1, items_tup, items_lst, items_rng1, items_enum_tup, items_zip_tup, mk_f, mk_t, LIM, cal_fn, cal_W, cal_meth, cal_init, guard_nil, guard_int, guard_tup, guard_lst])
    | 2, _ =>
      simp only [Option.bind_some]
      have i3 : ∀ a b c d : D, L2.atI [a, b, c, d] 3 = some d := fun a b c d => by have := atI_nat [a, b, c, d] 3; simpa using this
      (simp (decide := true) [exs, ex, ev, evs, evo, evc, bindT, bindL, getV, seqOf, de_str, de_int, de_bl, de_non, de_tup, de_lst, de_dic, de_inp, eqD_str, eqD_int, eqD_bl, bin_eq, bin_ne, bin_inn_tup, bin_inn_lst, bin_notin_tup, bin_notin_lst, bin_inn_str, bin_notin_str, bin_add_int, bin_sub_int, bin_add_tup, bin_add_lst, bin_lt_int, bin_gt_int, bin_le_int, bin_ge_int, bin_band, bin_bor, bin_shl, bin_shr, bin_mod, bin_fdiv, bin_mul_int, bin_mul_lst, bin_mul_tup, un_not, un_inv, idx_tup, idx_lst, idx_str, idx_dic, slc_tup, slc_lst, slc_inp, prim_len_tup, prim_len_lst, prim_len_str, prim_int_int, prim_int_bl, prim_tuple_lst, prim_tuple_tup, prim_list_lst, prim_list_tup, prim_all, prim_any, prim_sum, prim_max2, prim_sorted, prim_lr, prim_abs, atI_0, atI_1, atI_2, cut_from1, items_tup, items_lst, items_rng1, items_enum_tup, items_zip_tup, mk_f, mk_t, LIM, cal_fn, cal_W, cal_meth, cal_init, guard_nil, guard_int, guard_tup, guard_lst, i3])
  match mode, hm with
  | 0, _ => exact ⟨.cl q, mc (by omega), key⟩
  | 1, _ => exact ⟨.nt (.cl q), mn (by omega), key⟩
  | 2, _ =>
    by_cases h0 : v = 0
    · refine ⟨.cl q, mc (by omega), ?_⟩
      rw [key]; simp [h0]
    · refine ⟨.nt (.cl q), mn (by omega), ?_⟩
      rw [key]; simp [h0]
end Fw
end
section
set_option Elab.async false
set_option linter.all false
set_option autoImplicit false
set_option maxRecDepth 10000
set_option maxHeartbeats 4000000
/-! Pl21: a formula drawn, the whole. -/
namespace Fw
open PySem
theorem tf_spec {P : Prog} {x : Nat} (hx : P.funs[x]? = some l22) {nums : List Int} (hn : StOk nums) {S : Store} {r : Nat} (hr : r < S.length) (n c : Nat) (hc : c < 1000000000) (cs : List Str) (mode d : Nat) {σ : Ev} (h0 : getV σ 0 = some (.ref r)) :
    ∃ f, Made mode cs d f ∧ ev (cal P (run P (n + 1))) (.tup [(.idx (.lst false [(.cst (.str "true")), (.cst (.str "false"))]) (.call x [(.var 0), (.cst (.int 2))]))]) σ (S.set r (stC nums c)) = some (f.enc, S.set r (stC nums (c + 1))) := by
  obtain ⟨v, hv, hd⟩ := ev_draw hx hn hr n c 2 hc (by omega) (e := .cst (.int 2)) (σ := σ) h0 (by rw [ev]; rfl)
  have ep := ev_pick2 (a := .cst (.str "true")) (b := .cst (.str "false")) (x := .str "true") (y := .str "false") (fun S => evs_2 (S1 := S) (by rw [ev]) (by rw [ev])) hd hv
  have p2 : 2 ≤ 3 * 2 ^ d := by have := Nat.one_le_two_pow (n := d); omega
  by_cases z : v = 0
  · refine ⟨.tt, ⟨rfl, by simp [Fm.parts]; omega, by simp [Fm.dep], fun _ => rfl, fun _ => rfl⟩, ?_⟩
    rw [if_pos z] at ep
    rw [ev, evs_1 ep, Fm.enc]
    rfl
  · refine ⟨.ff, ⟨rfl, by simp [Fm.parts]; omega, by simp [Fm.dep], fun _ => rfl, fun _ => rfl⟩, ?_⟩
    rw [if_neg z] at ep
    rw [ev, evs_1 ep, Fm.enc]
    rfl
theorem Made.up {mode : Nat} {cs : List Str} {d : Nat} {f g : Fm} {b : Bool} (hf : Made mode cs d f) (hg : Made mode cs d g) : Made mode cs (d + 1) (.nn b [f, g]) := by
  have h1 := hf.pts
  have h2 := hg.pts
  have h3 := hf.dep
  have h4 := hg.dep
  refine ⟨by simp [Fm.wf, Fm.wfs, hf.wf, hg.wf], ?_, ?_, fun e => by simp [Fm.pos, Fm.poss, hf.pos e, hg.pos e], fun e => by simp [Fm.neg, Fm.negs, hf.neg e, hg.neg e]⟩
  · simp only [Fm.parts, Fm.partss, Nat.pow_succ]; omega
  · simp only [Fm.dep, Fm.deps]; omega
theorem plain_spec {P : Prog} {x p : Nat} (hx : P.funs[x]? = some l22) (hp : P.funs[p]? = some (l27 x p)) {nums : List Int} (hn : StOk nums) {S : Store} {r : Nat} (hr : r < S.length) (mode : Nat) (hm : mode < 3) (cs : List Str) (hcs : cs.length ≤ 100) (n : Nat) :
    ∀ d c, c + 5 * 2 ^ d < 1000000000 → ∃ f c', Made mode cs d f ∧ c ≤ c' ∧ c' + 1 ≤ c + 5 * 2 ^ d ∧ run P (n + d + 2) p [.ref r, strsD cs, .int (d : Nat), .int (mode : Nat)] (S.set r (stC nums c)) = some (f.enc, S.set r (stC nums c')) := by
  intro d
  induction d using Nat.strongRecOn with
  | _ d ih =>
  intro c hc
  have pd := Nat.one_le_two_pow (n := d)
  obtain ⟨k, hk, hk6⟩ := ev_draw hx hn hr (n + d) c 6 (by omega) (by omega) (e := .cst (.int 6)) (σ := [some (.ref r), some (strsD cs), some (.int (d : Nat)), some (.int (mode : Nat)), none, none, none]) rfl rfl
  have s1 : ex (cal P (run P (n + d + 1))) (.asg (.name 4) (.call x [(.var 0), (.cst (.int 6))])) [some (.ref r), some (strsD cs), some (.int (d : Nat)), some (.int (mode : Nat)), none, none, none] (S.set r (stC nums c)) = some (.nx, [some (.ref r), some (strsD cs), some (.int (d : Nat)), some (.int (mode : Nat)), some (.int (k : Nat)), none, none], S.set r (stC nums (c + 1))) := ex_asg hk6 rfl
  have el : ∀ (T : Store) (y z w : Option D), ev (cal P (run P (n + d + 1))) (.prim .len [(.var 1)]) [some (.ref r), some (strsD cs), some (.int (d : Nat)), some (.int (mode : Nat)), y, z, w] T = some (.int (cs.length : Nat), T) := fun T y z w => ev_prim (evs_1 rfl) (by show prim .len [.tup (cs.map .str)] = _; rw [prim_len_tup, List.length_map])
  have el0 : ∀ (T : Store) (y z w : Option D), ev (cal P (run P (n + d + 1))) (.b2 .eq (.prim .len [(.var 1)]) (.cst (.int 0))) [some (.ref r), some (strsD cs), some (.int (d : Nat)), some (.int (mode : Nat)), y, z, w] T = some (.bl (decide (((cs.length : Nat) : Int) = 0)), T) := fun T y z w =>
    ev_b2i (j := 0) (el T y z w) rfl (by rw [bin_eq, eqD_int]; rfl)
  have ec : ev (cal P (run P (n + d + 1))) (.or (.b2 .eq (.var 2) (.cst (.int 0))) (.or (.b2 .lt (.var 4) (.cst (.int 2))) (.b2 .eq (.prim .len [(.var 1)]) (.cst (.int 0))))) [some (.ref r), some (strsD cs), some (.int (d : Nat)), some (.int (mode : Nat)), some (.int (k : Nat)), none, none] (S.set r (stC nums (c + 1))) = some (.bl (decide (d = 0 ∨ k < 2 ∨ cs.length = 0)), S.set r (stC nums (c + 1))) := by
    rw [ev, ev_b2i (i := (d : Nat)) (j := 0) rfl rfl (by rw [bin_eq, eqD_int]; rfl)]
    by_cases z1 : d = 0
    · simp [z1]
    · have z1' : ¬ ((d : Nat) : Int) = 0 := by omega
      simp only [Option.bind_some, decide_eq_false z1']
      rw [ev, ev_b2i (i := (k : Nat)) (j := 2) rfl rfl (bin_lt_int _ _)]
      by_cases z2 : k < 2
      · have z2' : ((k : Nat) : Int) < 2 := by omega
        simp [z2', z2]
      · have z2' : ¬ ((k : Nat) : Int) < 2 := by omega
        simp only [Option.bind_some, decide_eq_false z2']
        rw [el0]
        simp [z1, z2]
  have fin : ∀ (f : Fm) (c' : Nat) (σ : Ev), exs (cal P (run P (n + d + 1))) (l27 x p).body ([.ref r, strsD cs, .int (d : Nat), .int (mode : Nat)].map some ++ List.replicate (l27 x p).nloc none) (S.set r (stC nums c)) = some (.rt f.enc, σ, S.set r (stC nums c')) → run P (n + d + 2) p [.ref r, strsD cs, .int (d : Nat), .int (mode : Nat)] (S.set r (stC nums c)) = some (f.enc, S.set r (stC nums c')) := fun f c' σ h => by
    rw [run_eq hp rfl, h, Option.bind_some]
    have e : S.set r (stC nums c') = (S.set r (stC nums c)).set r (stC nums c') := by rw [List.set_set]
    rw [e]
    exact leaveF_set0 (fun b => stC_ok nums c' b) f.py
  by_cases hcond : d = 0 ∨ k < 2 ∨ cs.length = 0
  · rw [decide_eq_true hcond] at ec
    by_cases hl : cs.length = 0
    · obtain ⟨f, hf, hev⟩ := tf_spec hx hn hr (n + d) (c + 1) (by omega) cs mode d (σ := [some (.ref r), some (strsD cs), some (.int (d : Nat)), some (.int (mode : Nat)), some (.int (k : Nat)), none, none]) rfl
      refine ⟨f, c + 1 + 1, hf, by omega, by omega, fin f _ [some (.ref r), some (strsD cs), some (.int (d : Nat)), some (.int (mode : Nat)), some (.int (k : Nat)), none, none] ?_⟩
      show exs _ [_, _, _] [some (.ref r), some (strsD cs), some (.int (d : Nat)), some (.int (mode : Nat)), none, none, none] _ = _
      rw [exs_nx s1, exs_rt]
      rw [ex_if_t ec, exs_rt]
      rw [ex_if_t (S1 := S.set r (stC nums (c + 1))) (by rw [ev, el0]; simp [hl])]
      exact exs_rt (ex_ret hev)
    · have hl' : ¬ (((cs.length : Nat) : Int) = 0) := by omega
      obtain ⟨v8, hv8, h8⟩ := ev_draw hx hn hr (n + d) (c + 1) 8 (by omega) (by omega) (e := .cst (.int 8)) (σ := [some (.ref r), some (strsD cs), some (.int (d : Nat)), some (.int (mode : Nat)), some (.int (k : Nat)), none, none]) rfl rfl
      have e8 : ev (cal P (run P (n + d + 1))) (.or (.b2 .eq (.prim .len [(.var 1)]) (.cst (.int 0))) (.b2 .eq (.call x [(.var 0), (.cst (.int 8))]) (.cst (.int 0)))) [some (.ref r), some (strsD cs), some (.int (d : Nat)), some (.int (mode : Nat)), some (.int (k : Nat)), none, none] (S.set r (stC nums (c + 1))) = some (.bl (decide (((v8 : Nat) : Int) = 0)), S.set r (stC nums (c + 1 + 1))) := by
        rw [ev, el0, decide_eq_false hl']
        simp only [Option.bind_some]
        exact ev_b2i (j := 0) h8 rfl (by rw [bin_eq, eqD_int]; rfl)
      by_cases z8 : ((v8 : Nat) : Int) = 0
      · rw [decide_eq_true z8] at e8
        obtain ⟨f, hf, hev⟩ := tf_spec hx hn hr (n + d) (c + 1 + 1) (by omega) cs mode d (σ := [some (.ref r), some (strsD cs), some (.int (d : Nat)), some (.int (mode : Nat)), some (.int (k : Nat)), none, none]) rfl
        refine ⟨f, c + 1 + 1 + 1, hf, by omega, by omega, fin f _ [some (.ref r), some (strsD cs), some (.int (d : Nat)), some (.int (mode : Nat)), some (.int (k : Nat)), none, none] ?_⟩
        show exs _ [_, _, _] [some (.ref r), some (strsD cs), some (.int (d : Nat)), some (.int (mode : Nat)), none, none, none] _ = _
        rw [exs_nx s1, exs_rt]
        rw [ex_if_t ec, exs_rt]
        rw [ex_if_t e8]
        exact exs_rt (ex_ret hev)
      · rw [decide_eq_false z8] at e8
        obtain ⟨vl, hvl, hL⟩ := ev_draw hx hn hr (n + d) (c + 1 + 1) cs.length (by omega) (by omega) (e := .prim .len [(.var 1)]) (σ := [some (.ref r), some (strsD cs), some (.int (d : Nat)), some (.int (mode : Nat)), some (.int (k : Nat)), none, none]) rfl (el _ _ _ _)
        have hq : cs[vl] ∈ cs := List.getElem_mem hvl
        have e5 : ev (cal P (run P (n + d + 1))) (.tup [(.cst (.str "claim")), (.idx (.var 1) (.call x [(.var 0), (.prim .len [(.var 1)])]))]) [some (.ref r), some (strsD cs), some (.int (d : Nat)), some (.int (mode : Nat)), some (.int (k : Nat)), none, none] (S.set r (stC nums (c + 1 + 1))) = some ((Fm.cl cs[vl]).enc, S.set r (stC nums (c + 1 + 1 + 1))) := by
          have ei : ev (cal P (run P (n + d + 1))) (.idx (.var 1) (.call x [(.var 0), (.prim .len [(.var 1)])])) [some (.ref r), some (strsD cs), some (.int (d : Nat)), some (.int (mode : Nat)), some (.int (k : Nat)), none, none] (S.set r (stC nums (c + 1 + 1))) = some (.str cs[vl], S.set r (stC nums (c + 1 + 1 + 1))) := by
            rw [ev, show ev (cal P (run P (n + d + 1))) (.var 1) [some (.ref r), some (strsD cs), some (.int (d : Nat)), some (.int (mode : Nat)), some (.int (k : Nat)), none, none] (S.set r (stC nums (c + 1 + 1))) = some (strsD cs, S.set r (stC nums (c + 1 + 1))) from rfl]
            simp only [Option.bind_some, hL]
            simp only [strsD, de_tup, idx_tup, atI_nat, List.getElem?_map, List.getElem?_eq_getElem hvl, Option.map_some]
          rw [ev, evs_2 (by rw [ev]) ei, Fm.enc]
          rfl
        obtain ⟨f, hf, hev⟩ := leaf_spec hx hn hr (n + d) (c + 1 + 1 + 1) (by omega) hq mode hm d (some (strsD cs)) (some (.int (d : Nat))) (some (.int (k : Nat))) none
        refine ⟨f, c + 1 + 1 + 1 + 1, hf, by omega, by omega, fin f _ [some (.ref r), some (strsD cs), some (.int (d : Nat)), some (.int (mode : Nat)), some (.int (k : Nat)), some (Fm.cl cs[vl]).enc, none] ?_⟩
        show exs _ [_, _, _] [some (.ref r), some (strsD cs), some (.int (d : Nat)), some (.int (mode : Nat)), none, none, none] _ = _
        rw [exs_nx s1, exs_rt]
        rw [ex_if_t ec, exs_nx (σ' := [some (.ref r), some (strsD cs), some (.int (d : Nat)), some (.int (mode : Nat)), some (.int (k : Nat)), none, none]) (S' := S.set r (stC nums (c + 1 + 1))) (by rw [ex_if_f e8, exs_nil])]
        rw [exs_nx (σ' := [some (.ref r), some (strsD cs), some (.int (d : Nat)), some (.int (mode : Nat)), some (.int (k : Nat)), some (Fm.cl cs[vl]).enc, none]) (ex_asg e5 rfl)]
        exact exs_rt (ex_ret hev)
  · rw [decide_eq_false hcond] at ec
    obtain ⟨d, rfl⟩ : ∃ e, d = e + 1 := ⟨d - 1, by omega⟩
    have pe := Nat.one_le_two_pow (n := d)
    rw [Nat.pow_succ] at hc
    obtain ⟨f1, c1, hf1, h1a, h1b, r1⟩ := ih d (by omega) (c + 1) (by omega)
    obtain ⟨f2, c2, hf2, h2a, h2b, r2⟩ := ih d (by omega) c1 (by omega)
    refine ⟨.nn (decide (k % 2 = 0)) [f1, f2], c2, hf1.up hf2, by omega, by rw [Nat.pow_succ]; omega, fin _ _ [some (.ref r), some (strsD cs), some (.int ((d + 1 : Nat) : Int)), some (.int (mode : Nat)), some (.int (k : Nat)), none, none] ?_⟩
    show exs _ [_, _, _] [some (.ref r), some (strsD cs), some (.int ((d + 1 : Nat) : Int)), some (.int (mode : Nat)), none, none, none] _ = _
    rw [exs_nx s1, exs_nx (σ' := [some (.ref r), some (strsD cs), some (.int ((d + 1 : Nat) : Int)), some (.int (mode : Nat)), some (.int (k : Nat)), none, none]) (S' := S.set r (stC nums (c + 1))) (by rw [ex_if_f ec, exs_nil])]
    refine exs_rt (ex_ret ?_)
    have em : ev (cal P (run P (n + (d + 1) + 1))) (.b2 .mod (.prim .int [(.var 4)]) (.cst (.int 2))) [some (.ref r), some (strsD cs), some (.int ((d + 1 : Nat) : Int)), some (.int (mode : Nat)), some (.int (k : Nat)), none, none] (S.set r (stC nums (c + 1))) = some (.int ((k % 2 : Nat) : Int), S.set r (stC nums (c + 1))) := by
      have h := bin_modI (k : Nat) 2 (by omega)
      rw [Int.fmod_eq_emod_of_nonneg _ (by omega)] at h
      exact ev_b2i (j := 2) (ev_int1 rfl) rfl h
    have ew := ev_pick2 (a := .cst (.str "and")) (b := .cst (.str "or")) (x := .str "and") (y := .str "or") (fun S => evs_2 (S1 := S) (by rw [ev]) (by rw [ev])) em (Nat.mod_lt _ (by omega))
    have call1 : ∀ (j : D) (T T' : Store) (f : Fm), run P (n + d + 2) p [.ref r, strsD cs, .int (d : Nat), .int (mode : Nat)] T = some (f.enc, T') → ev (cal P (run P (n + (d + 1) + 1))) (.call p [(.var 0), (.var 1), (.b2 .sub (.var 2) (.cst (.int 1))), (.var 3)]) [some (.ref r), some (strsD cs), some (.int ((d + 1 : Nat) : Int)), some (.int (mode : Nat)), some (.int (k : Nat)), none, some j] T = some (f.enc, T') := fun j T T' f h => by
      refine ev_call (ds := [.ref r, strsD cs, .int (d : Nat), .int (mode : Nat)]) (S1 := T) ?_ (by rw [cal_fn, show n + (d + 1) + 1 = n + d + 2 by omega]; exact h)
      have es : ev (cal P (run P (n + (d + 1) + 1))) (.b2 .sub (.var 2) (.cst (.int 1))) [some (.ref r), some (strsD cs), some (.int ((d + 1 : Nat) : Int)), some (.int (mode : Nat)), some (.int (k : Nat)), none, some j] T = some (.int (d : Nat), T) :=
        ev_b2i (i := ((d + 1 : Nat) : Int)) (j := 1) rfl rfl (by rw [bin_sub_int]; simp)
      rw [evs, show ev (cal P (run P (n + (d + 1) + 1))) (.var 0) [some (.ref r), some (strsD cs), some (.int ((d + 1 : Nat) : Int)), some (.int (mode : Nat)), some (.int (k : Nat)), none, some j] T = some (.ref r, T) from rfl]
      · simp only [Option.bind_some]
        rw [evs, show ev (cal P (run P (n + (d + 1) + 1))) (.var 1) [some (.ref r), some (strsD cs), some (.int ((d + 1 : Nat) : Int)), some (.int (mode : Nat)), some (.int (k : Nat)), none, some j] T = some (strsD cs, T) from rfl]
        · simp only [Option.bind_some]
          rw [evs_2 es rfl]
          rfl
        · intro e h; cases h
      · intro e h; cases h
    have ecomp : ev (cal P (run P (n + (d + 1) + 1))) (.comp false (.call p [(.var 0), (.var 1), (.b2 .sub (.var 2) (.cst (.int 1))), (.var 3)]) (.name 6) .rng1 [(.cst (.int 2))] []) [some (.ref r), some (strsD cs), some (.int ((d + 1 : Nat) : Int)), some (.int (mode : Nat)), some (.int (k : Nat)), none, none] (S.set r (stC nums (c + 1))) = some (.lst [f1.enc, f2.enc], S.set r (stC nums c2)) := by
      have ok2 : okRng 0 2 = true := okRng_of (by omega) (by omega) (by omega) (by omega)
      rw [ev_comp (ds := [.int 2]) (S1 := S.set r (stC nums (c + 1))) (xs := [.int 0, .int 1]) (evs_1 rfl) (by rw [items_rng1, if_pos ok2]; rfl)]
      simp only [compL, bindT, List.set_cons_zero, List.set_cons_succ, Option.bind_some, evc, if_true, call1 _ _ _ _ r1, guard_int, guard_nil]
      rw [call1 _ _ _ _ r2]
      simp only [Option.bind_some, guard, List.all_cons, List.all_nil, guard1]
      rfl
    rw [ev, evs_2 ew (ev_prim (evs_1 ecomp) (prim_tuple_lst _))]
    simp only [Option.bind_some]
    rw [if_pos (by unfold LIM; simp), Fm.enc]
    by_cases z : k % 2 = 0 <;> simp [z, Fm.encs]
end Fw
end
section
set_option Elab.async false
set_option linter.all false
set_option autoImplicit false
set_option maxRecDepth 10000
set_option maxHeartbeats 4000000
/-! Pl22: a book drawn. -/
namespace Fw
open PySem
def letters : List Str := ["a", "b", "c", "d", "e", "f"]
def aheadOf (mode k : Nat) (cs : List Str) : List Str := if mode = 2 then cs.take k else cs
structure MadeB (mode many : Nat) (cs : List Str) (fs : List Fm) : Prop where
  cl : cs = letters.take many
  len : fs.length = many
  each : ∀ k f, fs[k]? = some f → Made mode (aheadOf mode k cs) 2 f
def l28 (x p : Nat) : FD := ⟨3, 4, [
  .asg (.name 3) (.prim .tuple [(.slc (.lst false [(.cst (.str "a")), (.cst (.str "b")), (.cst (.str "c")), (.cst (.str "d")), (.cst (.str "e")), (.cst (.str "f"))]) none (some (.var 1)))]),
  .asg (.name 4) (.lst true []),
  .for_ (.name 5) .rng1 [(.var 1)] [.asg (.name 6) (.idx (.lst false [(.var 3), (.var 3), (.slc (.var 3) none (some (.var 5)))]) (.var 2)), .expr (.pm .append (.var 4) [(.call p [(.var 0), (.var 6), (.cst (.int 2)), (.var 2)])])],
  .ret (.tup [(.var 3), (.prim .tuple [(.var 4)])])]⟩
theorem made_spec {P : Prog} {x p i : Nat} (hx : P.funs[x]? = some l22) (hp : P.funs[p]? = some (l27 x p)) (hi : P.funs[i]? = some (l28 x p)) {nums : List Int} (hn : StOk nums) {S : Store} {r : Nat} (hr : r < S.length) (mode : Nat) (hm : mode < 3) (many : Nat) (hk : many ≤ 6) (n c : Nat) (hc : c + 20 * many + 20 < 1000000000) :
    ∃ cs fs c', MadeB mode many cs fs ∧ c ≤ c' ∧ c' ≤ c + 20 * many ∧ run P (n + 5) i [.ref r, .int (many : Nat), .int (mode : Nat)] (S.set r (stC nums c)) = some (bookD cs fs, S.set r (stC nums c')) := by
  generalize hcs : letters.take many = cs
  have lcs : cs.length = many := by rw [← hcs, List.length_take]; show min many 6 = many; omega
  have s1 : ex (cal P (run P (n + 4))) (.asg (.name 3) (.prim .tuple [(.slc (.lst false [(.cst (.str "a")), (.cst (.str "b")), (.cst (.str "c")), (.cst (.str "d")), (.cst (.str "e")), (.cst (.str "f"))]) none (some (.var 1)))])) [some (.ref r), some (.int (many : Nat)), some (.int (mode : Nat)), none, none, none, none] (S.set r (stC nums c)) = some (.nx, [some (.ref r), some (.int (many : Nat)), some (.int (mode : Nat)), some (strsD cs), none, none, none], S.set r (stC nums c)) := by
    refine ex_asg (d := strsD cs) ?_ rfl
    have hs : ev (cal P (run P (n + 4))) (.slc (.lst false [(.cst (.str "a")), (.cst (.str "b")), (.cst (.str "c")), (.cst (.str "d")), (.cst (.str "e")), (.cst (.str "f"))]) none (some (.var 1))) [some (.ref r), some (.int (many : Nat)), some (.int (mode : Nat)), none, none, none, none] (S.set r (stC nums c)) = some (.lst (cs.map .str), S.set r (stC nums c)) := by
      have hcut : cut (letters.map D.str) none (some ((many : Nat) : Int)) = cs.map .str := by rw [cut_to, ← List.map_take, hcs]
      rw [← hcut]
      rfl
    exact ev_prim (evs_1 hs) rfl
  have s2 : ex (cal P (run P (n + 4))) (.asg (.name 4) (.lst true [])) [some (.ref r), some (.int (many : Nat)), some (.int (mode : Nat)), some (strsD cs), none, none, none] (S.set r (stC nums c)) = some (.nx, [some (.ref r), some (.int (many : Nat)), some (.int (mode : Nat)), some (strsD cs), some (.ref S.length), none, none], S.set r (stC nums c) ++ [.lst []]) := by
    refine ex_asg (d := .ref S.length) ?_ rfl
    rw [ev]
    simp only [evs, Option.bind_some, mk_t, List.length_set]
    rfl
  have loop := forL_inv (g := fun S' => guard (S.set r (stC nums c) ++ [.lst []]) S' [.int (many : Nat)]) (t := .name 5) (body := fun σ s => exs (cal P (run P (n + 4))) [.asg (.name 6) (.idx (.lst false [(.var 3), (.var 3), (.slc (.var 3) none (some (.var 5)))]) (.var 2)), .expr (.pm .append (.var 4) [(.call p [(.var 0), (.var 6), (.cst (.int 2)), (.var 2)])])] σ s) (fun i : Nat => D.int (i : Nat))
    (fun q σ S' => ∃ (fs : List Fm) (c' : Nat) (y z : Option D), fs.length + q.length = many ∧ q = (List.range many).drop fs.length ∧ c ≤ c' ∧ c' ≤ c + 20 * fs.length ∧ (∀ k f, fs[k]? = some f → Made mode (aheadOf mode k cs) 2 f) ∧ S' = S.set r (stC nums c') ++ [.lst (fs.map Fm.enc)] ∧ σ = [some (.ref r), some (.int (many : Nat)), some (.int (mode : Nat)), some (strsD cs), some (.ref S.length), y, z])
    (fun res => ∃ (fs : List Fm) (c' : Nat) (y z : Option D), fs.length = many ∧ c ≤ c' ∧ c' ≤ c + 20 * many ∧ (∀ k f, fs[k]? = some f → Made mode (aheadOf mode k cs) 2 f) ∧ res = some (.nx, [some (.ref r), some (.int (many : Nat)), some (.int (mode : Nat)), some (strsD cs), some (.ref S.length), y, z], S.set r (stC nums c') ++ [.lst (fs.map Fm.enc)]))
    (xs := List.range many) (σ := [some (.ref r), some (.int (many : Nat)), some (.int (mode : Nat)), some (strsD cs), some (.ref S.length), none, none]) (S := S.set r (stC nums c) ++ [.lst []])
    ⟨[], c, none, none, by simp, by simp, by omega, by omega, fun k f h => by simp at h, rfl, rfl⟩
    (fun k q σ S' ⟨fs, c', y, z, hlen, hq, hc1, hc2, hmade, hS', hσ⟩ => by
      subst hS' hσ
      rw [List.length_cons] at hlen
      have hkk : k = fs.length := by
        have h2 := congrArg (fun l : List Nat => l[0]?) hq
        simp only [List.getElem?_cons_zero, List.getElem?_drop, Nat.add_zero] at h2
        rw [List.getElem?_range (by omega)] at h2
        exact Option.some.inj h2
      subst hkk
      have hq2 : q = (List.range many).drop (fs.length + 1) := by
        have h2 := congrArg List.tail hq
        rw [List.tail_cons, List.tail_drop] at h2
        exact h2
      refine ⟨[some (.ref r), some (.int (many : Nat)), some (.int (mode : Nat)), some (strsD cs), some (.ref S.length), some (.int (fs.length : Nat)), z], rfl, ?_⟩
      have hah : ∀ T : Store, ev (cal P (run P (n + 4))) (.idx (.lst false [(.var 3), (.var 3), (.slc (.var 3) none (some (.var 5)))]) (.var 2)) [some (.ref r), some (.int (many : Nat)), some (.int (mode : Nat)), some (strsD cs), some (.ref S.length), some (.int (fs.length : Nat)), z] T = some (strsD (aheadOf mode fs.length cs), T) := fun T => by
        have hsl : slc (strsD cs) none (some ((fs.length : Nat) : Int)) = some (strsD (cs.take fs.length)) := by
          show some (D.tup (cut (cs.map .str) none (some ((fs.length : Nat) : Int)))) = some (D.tup ((cs.take fs.length).map .str))
          rw [cut_to, List.map_take]
        have es : ev (cal P (run P (n + 4))) (.slc (.var 3) none (some (.var 5))) [some (.ref r), some (.int (many : Nat)), some (.int (mode : Nat)), some (strsD cs), some (.ref S.length), some (.int (fs.length : Nat)), z] T = some (strsD (cs.take fs.length), T) := by
          have : ev (cal P (run P (n + 4))) (.slc (.var 3) none (some (.var 5))) [some (.ref r), some (.int (many : Nat)), some (.int (mode : Nat)), some (strsD cs), some (.ref S.length), some (.int (fs.length : Nat)), z] T = (slc (strsD cs) none (some ((fs.length : Nat) : Int))).map (·, T) := rfl
          rw [this, hsl]; rfl
        have e3 : evs (cal P (run P (n + 4))) [(.var 3), (.var 3), (.slc (.var 3) none (some (.var 5)))] [some (.ref r), some (.int (many : Nat)), some (.int (mode : Nat)), some (strsD cs), some (.ref S.length), some (.int (fs.length : Nat)), z] T = some ([strsD cs, strsD cs, strsD (cs.take fs.length)], T) := by
          rw [evs, show ev (cal P (run P (n + 4))) (.var 3) [some (.ref r), some (.int (many : Nat)), some (.int (mode : Nat)), some (strsD cs), some (.ref S.length), some (.int (fs.length : Nat)), z] T = some (strsD cs, T) from rfl]
          · simp only [Option.bind_some]
            rw [evs_2 (show ev (cal P (run P (n + 4))) (.var 3) [some (.ref r), some (.int (many : Nat)), some (.int (mode : Nat)), some (strsD cs), some (.ref S.length), some (.int (fs.length : Nat)), z] T = some (strsD cs, T) from rfl) es]
            rfl
          · intro e h; cases h
        rw [ev, ev, e3]
        simp only [Option.bind_some, mk_f]
        rw [if_pos (by unfold LIM; simp)]
        match mode, hm with
        | 0, _ => simp only [Option.bind_some]; (simp (decide := true) [exs, ex, ev, evs, evo, evc, bindT, bindL, getV, seqOf, de_str, de_int, de_bl, de_non, de_tup, de_lst, de_dic, de_inp, eqD_str, eqD_int, eqD_bl, bin_eq, bin_ne, bin_inn_tup, bin_inn_lst, bin_notin_tup, bin_notin_lst, bin_inn_str, bin_notin_str, bin_add_int, bin_sub_int, bin_add_tup, bin_add_lst, bin_lt_int, bin_gt_int, bin_le_int, bin_ge_int, bin_band, bin_bor, bin_shl, bin_shr, bin_mod, bin_fdiv, bin_mul_int, bin_mul_lst, bin_mul_tup, un_not, un_inv, idx_tup, idx_lst, idx_str, idx_dic, slc_tup, slc_lst, slc_inp, prim_len_tup, prim_len_lst, prim_len_str, prim_int_int, prim_int_bl, prim_tuple_lst, prim_tuple_tup, prim_list_lst, prim_list_tup, prim_all, prim_any, prim_sum, prim_max2, prim_sorted, prim_lr, prim_abs, atI_0, atI_1, atI_2, cut_from1, items_tup, items_lst, items_rng1, items_enum_tup, items_zip_tup, mk_f, mk_t, LIM, cal_fn, cal_W, cal_meth, cal_init, guard_nil, guard_int, guard_tup, guard_lst, aheadOf])
        | 1, _ => simp only [Option.bind_some]; (simp (decide := true) [exs, ex, ev, evs, evo, evc, bindT, bindL, getV, seqOf, de_str, de_int, de_bl, de_non, de_tup, de_lst, de_dic, de_inp, eqD_str, eqD_int, eqD_bl, bin_eq, bin_ne, bin_inn_tup, bin_inn_lst, bin_notin_tup, bin_notin_lst, bin_inn_str, bin_notin_str, bin_add_int, bin_sub_int, bin_add_tup, bin_add_lst, bin_lt_int, bin_gt_int, bin_le_int, bin_ge_int, bin_band, bin_bor, bin_shl, bin_shr, bin_mod, bin_fdiv, bin_mul_int, bin_mul_lst, bin_mul_tup, un_not, un_inv, idx_tup, idx_lst, idx_str, idx_dic, slc_tup, slc_lst, slc_inp, prim_len_tup, prim_len_lst, prim_len_str, prim_int_int, prim_int_bl, prim_tuple_lst, prim_tuple_tup, prim_list_lst, prim_list_tup, prim_all, prim_any, prim_sum, prim_max2, prim_sorted, prim_lr, prim_abs, atI_0, atI_1, atI_2, cut_from1, items_tup, items_lst, items_rng1, items_enum_tup, items_zip_tup, mk_f, mk_t, LIM, cal_fn, cal_W, cal_meth, cal_init, guard_nil, guard_int, guard_tup, guard_lst, aheadOf])
        | 2, _ => simp only [Option.bind_some]; (simp (decide := true) [exs, ex, ev, evs, evo, evc, bindT, bindL, getV, seqOf, de_str, de_int, de_bl, de_non, de_tup, de_lst, de_dic, de_inp, eqD_str, eqD_int, eqD_bl, bin_eq, bin_ne, bin_inn_tup, bin_inn_lst, bin_notin_tup, bin_notin_lst, bin_inn_str, bin_notin_str, bin_add_int, bin_sub_int, bin_add_tup, bin_add_lst, bin_lt_int, bin_gt_int, bin_le_int, bin_ge_int, bin_band, bin_bor, bin_shl, bin_shr, bin_mod, bin_fdiv, bin_mul_int, bin_mul_lst, bin_mul_tup, un_not, un_inv, idx_tup, idx_lst, idx_str, idx_dic, slc_tup, slc_lst, slc_inp, prim_len_tup, prim_len_lst, prim_len_str, prim_int_int, prim_int_bl, prim_tuple_lst, prim_tuple_tup, prim_list_lst, prim_list_tup, prim_all, prim_any, prim_sum, prim_max2, prim_sorted, prim_lr, prim_abs, atI_0, atI_1, atI_2, cut_from1, items_tup, items_lst, items_rng1, items_enum_tup, items_zip_tup, mk_f, mk_t, LIM, cal_fn, cal_W, cal_meth, cal_init, guard_nil, guard_int, guard_tup, guard_lst, aheadOf])
      have hal : (aheadOf mode fs.length cs).length ≤ 100 := by
        unfold aheadOf
        split
        · rw [List.length_take]; omega
        · omega
      obtain ⟨f, c2, hf, h2a, h2b, hrun⟩ := plain_spec hx hp hn (S := S ++ [.lst (fs.map Fm.enc)]) (r := r) (by simp; omega) mode hm (aheadOf mode fs.length cs) hal n 2 c' (by omega)
      rw [List.set_append_left _ _ hr, List.set_append_left _ _ hr] at hrun
      have hcall : ev (cal P (run P (n + 4))) (.call p [(.var 0), (.var 6), (.cst (.int 2)), (.var 2)]) [some (.ref r), some (.int (many : Nat)), some (.int (mode : Nat)), some (strsD cs), some (.ref S.length), some (.int (fs.length : Nat)), some (strsD (aheadOf mode fs.length cs))] (S.set r (stC nums c') ++ [.lst (fs.map Fm.enc)]) = some (f.enc, S.set r (stC nums c2) ++ [.lst (fs.map Fm.enc)]) :=
        ev_call (ds := [.ref r, strsD (aheadOf mode fs.length cs), .int ((2 : Nat) : Int), .int (mode : Nat)]) (S1 := S.set r (stC nums c') ++ [Cell.lst (fs.map Fm.enc)]) rfl hrun
      have happ : ev (cal P (run P (n + 4))) (.pm .append (.var 4) [(.call p [(.var 0), (.var 6), (.cst (.int 2)), (.var 2)])]) [some (.ref r), some (.int (many : Nat)), some (.int (mode : Nat)), some (strsD cs), some (.ref S.length), some (.int (fs.length : Nat)), some (strsD (aheadOf mode fs.length cs))] (S.set r (stC nums c') ++ [.lst (fs.map Fm.enc)]) = some (.non, S.set r (stC nums c2) ++ [.lst ((fs ++ [f]).map Fm.enc)]) := by
        have hL : ∀ c3 : Nat, (S.set r (stC nums c3) ++ [Cell.lst (fs.map Fm.enc)])[S.length]? = some (.lst (fs.map Fm.enc)) := fun c3 => by
          have := app_get (S.set r (stC nums c3)) (.lst (fs.map Fm.enc))
          rwa [List.length_set] at this
        have hT : ∀ c' : Cell, (S.set r (stC nums c2) ++ [Cell.lst (fs.map Fm.enc)]).set S.length c' = S.set r (stC nums c2) ++ [c'] := fun c' => by
          have := app_set (S.set r (stC nums c2)) (.lst (fs.map Fm.enc)) c'
          rwa [List.length_set] at this
        rw [ev, ev]
        simp only [getV, List.getElem?_cons_zero, List.getElem?_cons_succ, Option.join_some, Option.map_some, Option.bind_some, deref, hL, pmOk, if_true]
        rw [evs_1 hcall]
        simp only [Option.bind_some, pmV, hL, hT, List.length_map]
        rw [if_pos (by unfold LIM; omega), List.map_append]
        rfl
      refine .inl ⟨[some (.ref r), some (.int (many : Nat)), some (.int (mode : Nat)), some (strsD cs), some (.ref S.length), some (.int (fs.length : Nat)), some (strsD (aheadOf mode fs.length cs))], S.set r (stC nums c2) ++ [.lst ((fs ++ [f]).map Fm.enc)], .inl ?_, rfl, fs ++ [f], c2, _, _, by simp; omega, by rw [List.length_append]; exact hq2, by omega, by simp; omega, ?_, rfl, rfl⟩
      · show exs _ [_, _] _ _ = _
        rw [exs_nx (σ' := [some (.ref r), some (.int (many : Nat)), some (.int (mode : Nat)), some (strsD cs), some (.ref S.length), some (.int (fs.length : Nat)), some (strsD (aheadOf mode fs.length cs))]) (ex_asg (hah _) rfl), exs_nx (ex_expr happ), exs_nil]
      · intro j g hj
        by_cases hjl : j < fs.length
        · rw [List.getElem?_append_left hjl] at hj
          exact hmade j g hj
        · rw [List.getElem?_append_right (by omega)] at hj
          have hj0 : j = fs.length := by
            rcases Nat.lt_or_ge (j - fs.length) 1 with h | h
            · omega
            · rw [List.getElem?_eq_none (by simpa using h)] at hj; cases hj
          subst hj0
          rw [Nat.sub_self] at hj
          cases hj
          exact hf)
    (fun σ S' ⟨fs, c', y, z, hlen, hq, hc1, hc2, hmade, hS', hσ⟩ => by
      subst hS' hσ
      rw [List.length_nil, Nat.add_zero] at hlen
      exact ⟨fs, c', y, z, hlen, hc1, by omega, hmade, rfl⟩)
  obtain ⟨fs, c', y, z, hlen, hc1, hc2, hmade, e1⟩ := loop
  refine ⟨cs, fs, c', ⟨hcs.symm, hlen, hmade⟩, hc1, hc2, ?_⟩
  rw [run_eq hi rfl]
  have okm : okRng 0 ((many : Nat) : Int) = true := okRng_of (by omega) (by omega) (by omega) (by omega)
  have key : exs (cal P (run P (n + 4))) (l28 x p).body ([.ref r, .int (many : Nat), .int (mode : Nat)].map some ++ List.replicate (l28 x p).nloc none) (S.set r (stC nums c)) = some (.rt (bookD cs fs), [some (.ref r), some (.int (many : Nat)), some (.int (mode : Nat)), some (strsD cs), some (.ref S.length), y, z], S.set r (stC nums c') ++ [.lst (fs.map Fm.enc)]) := by
    show exs _ [_, _, _, _] [some (.ref r), some (.int (many : Nat)), some (.int (mode : Nat)), none, none, none, none] _ = _
    rw [exs_nx s1, exs_nx s2, exs_nx (σ' := [some (.ref r), some (.int (many : Nat)), some (.int (mode : Nat)), some (strsD cs), some (.ref S.length), y, z]) (S' := S.set r (stC nums c') ++ [.lst (fs.map Fm.enc)]) (by
      rw [ex_for (ds := [.int (many : Nat)]) (S1 := S.set r (stC nums c) ++ [.lst []]) (evs_1 rfl) (by rw [items_rng1, if_pos okm, rng0])]
      exact e1)]
    refine exs_rt (ex_ret ?_)
    have hd : deref (S.set r (stC nums c') ++ [.lst (fs.map Fm.enc)]) (.ref S.length) = .lst (fs.map Fm.enc) := by
      have := app_get (S.set r (stC nums c')) (.lst (fs.map Fm.enc))
      rw [List.length_set] at this
      simp [deref, this]
    have et : ev (cal P (run P (n + 4))) (.prim .tuple [(.var 4)]) [some (.ref r), some (.int (many : Nat)), some (.int (mode : Nat)), some (strsD cs), some (.ref S.length), y, z] (S.set r (stC nums c') ++ [.lst (fs.map Fm.enc)]) = some (.tup (Fm.encs fs), S.set r (stC nums c') ++ [.lst (fs.map Fm.enc)]) :=
      ev_prim (evs_1 rfl) (by show prim .tuple [deref (S.set r (stC nums c') ++ [.lst (fs.map Fm.enc)]) (.ref S.length)] = _; rw [hd, Fm.encs_map]; rfl)
    rw [ev, evs_2 rfl et]
    rfl
  rw [key, Option.bind_some]
  have e : S.set r (stC nums c') = (S.set r (stC nums c)).set r (stC nums c') := by rw [List.set_set]
  rw [e]
  refine leaveF_set (fun b => stC_ok nums c' b) ?_
  unfold bookD
  rw [D.isPy, D.isPys, D.isPys, D.isPys, D.isPy, D.isPy, Fm.pys]
  rw [isPys_of fun x hx => by obtain ⟨s, _, rfl⟩ := List.mem_map.mp hx; rfl]
  rfl
end Fw
end
section
set_option Elab.async false
set_option linter.all false
set_option autoImplicit false
set_option maxRecDepth 10000
set_option maxHeartbeats 4000000
/-! Pl23: a drawn book is a good book; labels of a choice. -/
namespace Fw
open PySem
mutual
theorem Fm.wf_mono {a b : List Str} (h : ∀ s ∈ a, s ∈ b) : ∀ f : Fm, f.wf a = true → f.wf b = true
  | .tt, _ => rfl
  | .ff, _ => rfl
  | .cl c, w => by
    simp only [Fm.wf, decide_eq_true_eq] at *
    exact h c w
  | .nt f, w => by
    rw [Fm.wf] at *
    exact Fm.wf_mono h f w
  | .nn _ fs, w => by
    rw [Fm.wf, Bool.and_eq_true] at *
    exact ⟨w.1, Fm.wfs_mono h fs w.2⟩
theorem Fm.wfs_mono {a b : List Str} (h : ∀ s ∈ a, s ∈ b) : ∀ fs : List Fm, Fm.wfs a fs = true → Fm.wfs b fs = true
  | [], _ => rfl
  | f :: fs, w => by
    rw [Fm.wfs, Bool.and_eq_true] at *
    exact ⟨Fm.wf_mono h f w.1, Fm.wfs_mono h fs w.2⟩
end
theorem letters_ok : ∀ s ∈ letters, ClaimOk s := by
  have one : ∀ c : Nat, strIn ⟨#[c]⟩ FIRST = true → strIn ⟨#[c]⟩ SIGNS = true → ClaimOk ⟨#[c]⟩ := fun c h1 h2 =>
    ⟨by show 1 ≤ 1; omega, by show 1 ≤ 12; omega, ⟨c, rfl, h1⟩, fun d hd => by simp at hd; subst hd; exact h2⟩
  intro s hs
  simp only [letters, List.mem_cons, List.not_mem_nil, or_false] at hs
  rcases hs with rfl | rfl | rfl | rfl | rfl | rfl
  · exact one 97 (by decide +kernel) (by decide +kernel)
  · exact one 98 (by decide +kernel) (by decide +kernel)
  · exact one 99 (by decide +kernel) (by decide +kernel)
  · exact one 100 (by decide +kernel) (by decide +kernel)
  · exact one 101 (by decide +kernel) (by decide +kernel)
  · exact one 102 (by decide +kernel) (by decide +kernel)
theorem letters_srt : letters.Pairwise fun a b => sLt a b = true := by
  unfold letters
  have h : ∀ a b : Str, sLt a b = true → (fun a b => sLt a b = true) a b := fun a b h => h
  simp only [List.pairwise_cons, List.mem_cons, List.not_mem_nil, or_false, forall_eq_or_imp, forall_eq, false_implies, implies_true, List.Pairwise.nil, and_true]
  refine ⟨⟨?_, ?_, ?_, ?_, ?_⟩, ⟨?_, ?_, ?_, ?_⟩, ⟨?_, ?_, ?_⟩, ⟨?_, ?_⟩, ?_⟩ <;> decide
theorem MadeB.lenc {mode many : Nat} {cs : List Str} {fs : List Fm} (h : MadeB mode many cs fs) (hk : many ≤ 6) : cs.length = many := by
  rw [h.cl, List.length_take]; show min many 6 = many; omega
theorem MadeB.ok {mode many : Nat} {cs : List Str} {fs : List Fm} (h : MadeB mode many cs fs) (hk : many ≤ 6) : BookOk cs fs := by
  have hl := h.lenc hk
  have sub : cs.Sublist letters := by rw [h.cl]; exact List.take_sublist _ _
  have each : ∀ f ∈ fs, ∃ k, Made mode (aheadOf mode k cs) 2 f := fun f hf => by
    obtain ⟨k, hk, e⟩ := List.getElem_of_mem hf
    exact ⟨k, h.each k f (by rw [← e]; exact List.getElem?_eq_getElem hk)⟩
  refine ⟨by omega, fun c hc => letters_ok c (sub.subset hc), letters_srt.sublist sub, by rw [h.len, hl], fun f hf => ?_, fun f hf => ?_⟩
  · obtain ⟨k, hm⟩ := each f hf
    refine Fm.wf_mono (fun s hs => ?_) f hm.wf
    unfold aheadOf at hs
    split at hs
    · exact List.mem_of_mem_take hs
    · exact hs
  · obtain ⟨k, hm⟩ := each f hf
    have h1 := hm.pts
    have h2 := hm.dep
    exact ⟨by omega, by omega⟩
/-- the labels of a choice of claims -/
def labW (cs : List Str) (W : List Str) : List Lb := cs.map fun s => if s ∈ W then .inn else .out
def l30 : FD := ⟨2, 1, [
  .ret (.prim .tuple [(.comp false (.idx (.lst false [(.cst (.str "out")), (.cst (.str "in"))]) (.prim .int [(.b2 .inn (.var 2) (.var 1))])) (.name 2) .seq [(.idx (.var 0) (.cst (.int 0)))] [])])]⟩
theorem lab_spec {P : Prog} {i : Nat} (h : P.funs[i]? = some l30) (n : Nat) (cs : List Str) (fs : List Fm) (W : List Str) (S : Store) (hk : cs.length ≤ 6) : run P (n + 1) i [bookD cs fs, strsD W] S = some (encL (labW cs W), S) := by
  rw [run_eq h rfl]
  have ec : ev (cal P (run P n)) (.comp false (.idx (.lst false [(.cst (.str "out")), (.cst (.str "in"))]) (.prim .int [(.b2 .inn (.var 2) (.var 1))])) (.name 2) .seq [(.idx (.var 0) (.cst (.int 0)))] []) [some (bookD cs fs), some (strsD W), none] S = some (.lst (cs.map fun s => .str (if s ∈ W then Lb.inn else Lb.out).str), S) := by
    rw [ev_comp (ds := [.tup (cs.map .str)]) (S1 := S) (xs := cs.map .str) (evs_1 (by unfold bookD; (simp (decide := true) [exs, ex, ev, evs, evo, evc, bindT, bindL, getV, seqOf, de_str, de_int, de_bl, de_non, de_tup, de_lst, de_dic, de_inp, eqD_str, eqD_int, eqD_bl, bin_eq, bin_ne, bin_inn_tup, bin_inn_lst, bin_notin_tup, bin_notin_lst, bin_inn_str, bin_notin_str, bin_add_int, bin_sub_int, bin_add_tup, bin_add_lst, bin_lt_int, bin_gt_int, bin_le_int, bin_ge_int, bin_band, bin_bor, bin_shl, bin_shr, bin_mod, bin_fdiv, bin_mul_int, bin_mul_lst, bin_mul_tup, un_not, un_inv, idx_tup, idx_lst, idx_str, idx_dic, slc_tup, slc_lst, slc_inp, prim_len_tup, prim_len_lst, prim_len_str, prim_int_int, prim_int_bl, prim_tuple_lst, prim_tuple_tup, prim_list_lst, prim_list_tup, prim_all, prim_any, prim_sum, prim_max2, prim_sorted, prim_lr, prim_abs, atI_0, atI_1, atI_2, cut_from1, items_tup, items_lst, items_rng1, items_enum_tup, items_zip_tup, mk_f, mk_t, LIM, cal_fn, cal_W, cal_meth, cal_init, guard_nil, guard_int, guard_tup, guard_lst]))) rfl, compL_mapc D.str (fun s => D.str (if s ∈ W then Lb.inn else Lb.out).str) rfl]
    · simp only [Option.bind_some, mk_f, List.length_map]
      rw [if_pos (by unfold LIM; omega)]
    · intro s _
      have m := memD_strs s W
      unfold strsD
      by_cases z : s ∈ W <;> (simp (decide := true) [exs, ex, ev, evs, evo, evc, bindT, bindL, getV, seqOf, de_str, de_int, de_bl, de_non, de_tup, de_lst, de_dic, de_inp, eqD_str, eqD_int, eqD_bl, bin_eq, bin_ne, bin_inn_tup, bin_inn_lst, bin_notin_tup, bin_notin_lst, bin_inn_str, bin_notin_str, bin_add_int, bin_sub_int, bin_add_tup, bin_add_lst, bin_lt_int, bin_gt_int, bin_le_int, bin_ge_int, bin_band, bin_bor, bin_shl, bin_shr, bin_mod, bin_fdiv, bin_mul_int, bin_mul_lst, bin_mul_tup, un_not, un_inv, idx_tup, idx_lst, idx_str, idx_dic, slc_tup, slc_lst, slc_inp, prim_len_tup, prim_len_lst, prim_len_str, prim_int_int, prim_int_bl, prim_tuple_lst, prim_tuple_tup, prim_list_lst, prim_list_tup, prim_all, prim_any, prim_sum, prim_max2, prim_sorted, prim_lr, prim_abs, atI_0, atI_1, atI_2, cut_from1, items_tup, items_lst, items_rng1, items_enum_tup, items_zip_tup, mk_f, mk_t, LIM, cal_fn, cal_W, cal_meth, cal_init, guard_nil, guard_int, guard_tup, guard_lst, m, z, Lb.str])
  have key : (exs (cal P (run P n)) l30.body ([bookD cs fs, strsD W].map some ++ List.replicate l30.nloc none) S) = some (.rt (encL (labW cs W)), [some (bookD cs fs), some (strsD W), none], S) := by
    show exs (cal P (run P n)) [_] [some (bookD cs fs), some (strsD W), none] S = _
    refine exs_rt (ex_ret (ev_prim (evs_1 ec) ?_))
    unfold encL labW
    rw [List.map_map]
    rfl
  rw [key, Option.bind_some]
  exact leaveF_py0 (encL_py _)
end Fw
end
section
set_option Elab.async false
set_option linter.all false
set_option autoImplicit false
set_option maxRecDepth 10000
set_option maxHeartbeats 4000000
/-! Pl24: the models of a book. -/
namespace Fw
open PySem
def l29 (t s : Nat) : FD := ⟨1, 3, [
  .asg (.name 1) (.lst true []),
  .for_ (.name 2) .seq [(.call s [(.idx (.var 0) (.cst (.int 0)))])] [.ife (.prim .all [(.comp false (.b2 .eq (.call t [(.idx (.idx (.var 0) (.cst (.int 1))) (.var 3)), (.var 2)]) (.b2 .inn (.idx (.idx (.var 0) (.cst (.int 0))) (.var 3)) (.var 2))) (.name 3) .rng1 [(.prim .len [(.idx (.var 0) (.cst (.int 0)))])] [])]) [.expr (.pm .append (.var 1) [(.var 2)])] []],
  .ret (.var 1)]⟩
def isModel (cs : List Str) (fs : List Fm) (W : List Str) : Bool := ((List.range cs.length).map fun k => decide (((fs[k]?).getD .ff).val (say W) = say W ((cs[k]?).getD ⟨#[]⟩))).all id
theorem leaveF_newRow {S : Store} {σ : Ev} {xs : List D} (hp : (D.lst xs).isPy = true) : leaveF S (.rt (.ref S.length), σ, S ++ [Cell.lst xs]) = some (.lst xs, S) := by
  have hu : unref S.length (S ++ [Cell.lst xs]) (.ref S.length) = .lst xs := by
    simp [unref, noFro, deref, app_get]
  unfold leaveF
  simp only [Option.bind_some, leave, hu, okR_py.1 _ S.length hp, if_true, keepOk_app, List.take_left']
theorem strss_py (rows : List (List Str)) : (D.lst (rows.map strsD)).isPy = true := by
  rw [D.isPy]
  exact isPys_of fun x hx => by obtain ⟨W, _, rfl⟩ := List.mem_map.mp hx; exact (Sx.strs W).py
theorem models_spec {P : Prog} {a t s i : Nat} (ha : P.funs[a]? = some l24) (ht : P.funs[t]? = some (l25 t a)) (hs : P.funs[s]? = some l23) (hi : P.funs[i]? = some (l29 t s)) (n : Nat) (cs : List Str) (fs : List Fm) (S : Store) (hk : cs.length ≤ 6) (hfs : fs.length = cs.length) (hf : ∀ f ∈ fs, f.dep ≤ 3 ∧ f.parts ≤ 1000) :
    ∃ rows : List (List Str), rows.Perm ((subsL cs).filter (isModel cs fs)) ∧ run P (n + 6) i [bookD cs fs] S = some (.lst (rows.map strsD), S) := by
  rw [run_eq hi rfl]
  obtain ⟨rows0, hperm, hsub⟩ := subsets_spec hs (n + 4) cs (S ++ [Cell.lst []]) hk
  have hlen0 : rows0.length ≤ 64 := by
    rw [hperm.length_eq, subsL_length]; exact Nat.le_trans (Nat.pow_le_pow_right (by omega) hk) (by decide)
  refine ⟨rows0.filter (isModel cs fs), hperm.filter _, ?_⟩
  have test : ∀ (T : Store) (W : List Str) (y w : Option D), ev (cal P (run P (n + 5))) (.prim .all [(.comp false (.b2 .eq (.call t [(.idx (.idx (.var 0) (.cst (.int 1))) (.var 3)), (.var 2)]) (.b2 .inn (.idx (.idx (.var 0) (.cst (.int 0))) (.var 3)) (.var 2))) (.name 3) .rng1 [(.prim .len [(.idx (.var 0) (.cst (.int 0)))])] [])]) [some (bookD cs fs), y, some (strsD W), w] T = some (.bl (isModel cs fs W), T) := fun T W y w => by
    have okm : okRng 0 ((cs.length : Nat) : Int) = true := okRng_of (by omega) (by omega) (by omega) (by omega)
    have e0 : ∀ (v : Option D), ev (cal P (run P (n + 5))) (.idx (.var 0) (.cst (.int 0))) [some (bookD cs fs), y, some (strsD W), v] T = some (.tup (cs.map .str), T) := fun v => by unfold bookD; (simp (decide := true) [exs, ex, ev, evs, evo, evc, bindT, bindL, getV, seqOf, de_str, de_int, de_bl, de_non, de_tup, de_lst, de_dic, de_inp, eqD_str, eqD_int, eqD_bl, bin_eq, bin_ne, bin_inn_tup, bin_inn_lst, bin_notin_tup, bin_notin_lst, bin_inn_str, bin_notin_str, bin_add_int, bin_sub_int, bin_add_tup, bin_add_lst, bin_lt_int, bin_gt_int, bin_le_int, bin_ge_int, bin_band, bin_bor, bin_shl, bin_shr, bin_mod, bin_fdiv, bin_mul_int, bin_mul_lst, bin_mul_tup, un_not, un_inv, idx_tup, idx_lst, idx_str, idx_dic, slc_tup, slc_lst, slc_inp, prim_len_tup, prim_len_lst, prim_len_str, prim_int_int, prim_int_bl, prim_tuple_lst, prim_tuple_tup, prim_list_lst, prim_list_tup, prim_all, prim_any, prim_sum, prim_max2, prim_sorted, prim_lr, prim_abs, atI_0, atI_1, atI_2, cut_from1, items_tup, items_lst, items_rng1, items_enum_tup, items_zip_tup, mk_f, mk_t, LIM, cal_fn, cal_W, cal_meth, cal_init, guard_nil, guard_int, guard_tup, guard_lst])
    have e1 : ∀ (v : Option D), ev (cal P (run P (n + 5))) (.idx (.var 0) (.cst (.int 1))) [some (bookD cs fs), y, some (strsD W), v] T = some (.tup (Fm.encs fs), T) := fun v => by unfold bookD; (simp (decide := true) [exs, ex, ev, evs, evo, evc, bindT, bindL, getV, seqOf, de_str, de_int, de_bl, de_non, de_tup, de_lst, de_dic, de_inp, eqD_str, eqD_int, eqD_bl, bin_eq, bin_ne, bin_inn_tup, bin_inn_lst, bin_notin_tup, bin_notin_lst, bin_inn_str, bin_notin_str, bin_add_int, bin_sub_int, bin_add_tup, bin_add_lst, bin_lt_int, bin_gt_int, bin_le_int, bin_ge_int, bin_band, bin_bor, bin_shl, bin_shr, bin_mod, bin_fdiv, bin_mul_int, bin_mul_lst, bin_mul_tup, un_not, un_inv, idx_tup, idx_lst, idx_str, idx_dic, slc_tup, slc_lst, slc_inp, prim_len_tup, prim_len_lst, prim_len_str, prim_int_int, prim_int_bl, prim_tuple_lst, prim_tuple_tup, prim_list_lst, prim_list_tup, prim_all, prim_any, prim_sum, prim_max2, prim_sorted, prim_lr, prim_abs, atI_0, atI_1, atI_2, cut_from1, items_tup, items_lst, items_rng1, items_enum_tup, items_zip_tup, mk_f, mk_t, LIM, cal_fn, cal_W, cal_meth, cal_init, guard_nil, guard_int, guard_tup, guard_lst])
    have ec : ev (cal P (run P (n + 5))) (.comp false (.b2 .eq (.call t [(.idx (.idx (.var 0) (.cst (.int 1))) (.var 3)), (.var 2)]) (.b2 .inn (.idx (.idx (.var 0) (.cst (.int 0))) (.var 3)) (.var 2))) (.name 3) .rng1 [(.prim .len [(.idx (.var 0) (.cst (.int 0)))])] []) [some (bookD cs fs), y, some (strsD W), w] T = some (.lst ((List.range cs.length).map fun k => .bl (decide (((fs[k]?).getD .ff).val (say W) = say W ((cs[k]?).getD ⟨#[]⟩)))), T) := by
      rw [ev_comp (ds := [.int (cs.length : Nat)]) (S1 := T) (xs := (List.range cs.length).map fun i => D.int ((i : Nat) : Int)) (evs_1 (ev_prim (evs_1 (e0 w)) (by show prim .len [.tup (cs.map .str)] = _; rw [prim_len_tup, List.length_map]))) (by rw [items_rng1, if_pos okm, rng0]),
        compL_mapc (fun i : Nat => D.int ((i : Nat) : Int)) (fun k => D.bl (decide (((fs[k]?).getD .ff).val (say W) = say W ((cs[k]?).getD ⟨#[]⟩)))) rfl]
      · simp only [Option.bind_some, mk_f, List.length_map, List.length_range]
        rw [if_pos (by unfold LIM; omega)]
      · intro k hkr
        rw [List.mem_range] at hkr
        have hkf : k < fs.length := by omega
        have hm := hf fs[k] (List.getElem_mem hkf)
        have et := ltrue_spec ha ht W T (n + 3) fs[k] (by omega) hm.2
        have i1 : ev (cal P (run P (n + 5))) (.idx (.idx (.var 0) (.cst (.int 1))) (.var 3)) [some (bookD cs fs), y, some (strsD W), some (.int (k : Nat))] T = some (fs[k].enc, T) := by
          rw [ev, e1]
          simp only [Option.bind_some, ev, getV, List.getElem?_cons_zero, List.getElem?_cons_succ, Option.join_some, Option.map_some, de_tup, idx_tup, atI_nat, Fm.encs_map, List.getElem?_map, List.getElem?_eq_getElem hkf]
        have i0 : ev (cal P (run P (n + 5))) (.idx (.idx (.var 0) (.cst (.int 0))) (.var 3)) [some (bookD cs fs), y, some (strsD W), some (.int (k : Nat))] T = some (.str cs[k], T) := by
          rw [ev, e0]
          simp only [Option.bind_some, ev, getV, List.getElem?_cons_zero, List.getElem?_cons_succ, Option.join_some, Option.map_some, de_tup, idx_tup, atI_nat, List.getElem?_map, List.getElem?_eq_getElem hkr]
        have ic : ev (cal P (run P (n + 5))) (.call t [(.idx (.idx (.var 0) (.cst (.int 1))) (.var 3)), (.var 2)]) [some (bookD cs fs), y, some (strsD W), some (.int (k : Nat))] T = some (.bl (fs[k].val (say W)), T) := ev_call (evs_2 i1 rfl) et
        have im : ev (cal P (run P (n + 5))) (.b2 .inn (.idx (.idx (.var 0) (.cst (.int 0))) (.var 3)) (.var 2)) [some (bookD cs fs), y, some (strsD W), some (.int (k : Nat))] T = some (.bl (say W cs[k]), T) := by
          rw [ev, i0]
          have m := memD_strs cs[k] W
          simp only [Option.bind_some, ev, getV, List.getElem?_cons_zero, List.getElem?_cons_succ, Option.join_some, Option.map_some, strsD, de_tup, de_str, bin_inn_tup, m, say]
        have ie : ev (cal P (run P (n + 5))) (.b2 .eq (.call t [(.idx (.idx (.var 0) (.cst (.int 1))) (.var 3)), (.var 2)]) (.b2 .inn (.idx (.idx (.var 0) (.cst (.int 0))) (.var 3)) (.var 2))) [some (bookD cs fs), y, some (strsD W), some (.int (k : Nat))] T = some (.bl (decide (fs[k].val (say W) = say W cs[k])), T) := by
          rw [ev, ic]
          simp only [Option.bind_some, im, de_bl, bin_eq, eqD_bl, Option.map_some]
        simp only [bindT, List.set_cons_zero, List.set_cons_succ, Option.bind_some, evc, if_true, ie, List.getElem?_eq_getElem hkf, List.getElem?_eq_getElem hkr, Option.getD_some]
    refine ev_prim (evs_1 ec) ?_
    show prim .all [.lst _] = _
    rw [prim_all, boolsOf_map]
    rfl
  have loop := forL_inv (g := fun S' => guard (S ++ [Cell.lst []]) S' [.lst (rows0.map strsD)]) (t := .name 2) (body := fun σ s => exs (cal P (run P (n + 5))) [.ife (.prim .all [(.comp false (.b2 .eq (.call t [(.idx (.idx (.var 0) (.cst (.int 1))) (.var 3)), (.var 2)]) (.b2 .inn (.idx (.idx (.var 0) (.cst (.int 0))) (.var 3)) (.var 2))) (.name 3) .rng1 [(.prim .len [(.idx (.var 0) (.cst (.int 0)))])] [])]) [.expr (.pm .append (.var 1) [(.var 2)])] []] σ s) strsD
    (fun q σ S' => ∃ (p : List (List Str)) (x : Option D), p ++ q = rows0 ∧ S' = S ++ [Cell.lst ((p.filter (isModel cs fs)).map strsD)] ∧ σ = [some (bookD cs fs), some (.ref S.length), x, none])
    (fun res => ∃ (x : Option D), res = some (.nx, [some (bookD cs fs), some (.ref S.length), x, none], S ++ [Cell.lst ((rows0.filter (isModel cs fs)).map strsD)]))
    (xs := rows0) (σ := [some (bookD cs fs), some (.ref S.length), none, none]) (S := S ++ [Cell.lst []])
    ⟨[], none, rfl, rfl, rfl⟩
    (fun W q σ S' ⟨p, x, hpq, hS', hσ⟩ => by
      subst hS' hσ
      refine ⟨[some (bookD cs fs), some (.ref S.length), some (strsD W), none], rfl, .inl ⟨[some (bookD cs fs), some (.ref S.length), some (strsD W), none], S ++ [Cell.lst (((p ++ [W]).filter (isModel cs fs)).map strsD)], .inl ?_, rfl, p ++ [W], _, by rw [← hpq]; simp, rfl, rfl⟩⟩
      have et := test (S ++ [Cell.lst ((p.filter (isModel cs fs)).map strsD)]) W (some (.ref S.length)) none
      have pl : p.length ≤ 64 := by rw [← hpq] at hlen0; simp at hlen0; omega
      show exs _ [_] _ _ = _
      cases z : isModel cs fs W with
      | true =>
        rw [z] at et
        have happ := ev_append (C := cal P (run P (n + 5))) (e := .var 2) (σ := [some (bookD cs fs), some (.ref S.length), some (strsD W), none]) (S := S) (S1 := S) (xs := (p.filter (isModel cs fs)).map strsD) (d := strsD W) (i := 1) rfl rfl (by
          rw [List.length_map]
          exact Nat.lt_of_le_of_lt (List.length_filter_le _ _) (by unfold LIM; omega))
        rw [exs_nx (σ' := [some (bookD cs fs), some (.ref S.length), some (strsD W), none]) (S' := S ++ [Cell.lst (((p ++ [W]).filter (isModel cs fs)).map strsD)]) (by
          rw [ex_if_t et, exs_nx (ex_expr happ), exs_nil, List.filter_append]
          simp [z]), exs_nil]
      | false =>
        rw [z] at et
        rw [exs_nx (σ' := [some (bookD cs fs), some (.ref S.length), some (strsD W), none]) (S' := S ++ [Cell.lst (((p ++ [W]).filter (isModel cs fs)).map strsD)]) (by
          rw [ex_if_f et, exs_nil, List.filter_append]
          simp [z]), exs_nil])
    (fun σ S' ⟨p, x, hpq, hS', hσ⟩ => by
      subst hS' hσ
      rw [List.append_nil] at hpq
      subst hpq
      exact ⟨x, rfl⟩)
  obtain ⟨x, e1⟩ := loop
  have key : (exs (cal P (run P (n + 5))) (l29 t s).body ([bookD cs fs].map some ++ List.replicate (l29 t s).nloc none) S) = some (.rt (.ref S.length), [some (bookD cs fs), some (.ref S.length), x, none], S ++ [Cell.lst ((rows0.filter (isModel cs fs)).map strsD)]) := by
    show exs (cal P (run P (n + 5))) [_, _, _] [some (bookD cs fs), none, none, none] S = _
    rw [exs_nx (σ' := [some (bookD cs fs), some (.ref S.length), none, none]) (S' := S ++ [Cell.lst []]) (by
      refine ex_asg (d := .ref S.length) ?_ rfl
      rw [ev]
      simp only [evs, Option.bind_some, mk_t]
      rfl),
      exs_nx (σ' := [some (bookD cs fs), some (.ref S.length), x, none]) (S' := S ++ [Cell.lst ((rows0.filter (isModel cs fs)).map strsD)]) (by
        rw [ex_for (ds := [.lst (rows0.map strsD)]) (S1 := S ++ [Cell.lst []]) (xs := rows0.map strsD) (evs_1 (ev_call (ds := [strsD cs]) (S1 := S ++ [Cell.lst []]) (evs_1 (by unfold bookD strsD; (simp (decide := true) [exs, ex, ev, evs, evo, evc, bindT, bindL, getV, seqOf, de_str, de_int, de_bl, de_non, de_tup, de_lst, de_dic, de_inp, eqD_str, eqD_int, eqD_bl, bin_eq, bin_ne, bin_inn_tup, bin_inn_lst, bin_notin_tup, bin_notin_lst, bin_inn_str, bin_notin_str, bin_add_int, bin_sub_int, bin_add_tup, bin_add_lst, bin_lt_int, bin_gt_int, bin_le_int, bin_ge_int, bin_band, bin_bor, bin_shl, bin_shr, bin_mod, bin_fdiv, bin_mul_int, bin_mul_lst, bin_mul_tup, un_not, un_inv, idx_tup, idx_lst, idx_str, idx_dic, slc_tup, slc_lst, slc_inp, prim_len_tup, prim_len_lst, prim_len_str, prim_int_int, prim_int_bl, prim_tuple_lst, prim_tuple_tup, prim_list_lst, prim_list_tup, prim_all, prim_any, prim_sum, prim_max2, prim_sorted, prim_lr, prim_abs, atI_0, atI_1, atI_2, cut_from1, items_tup, items_lst, items_rng1, items_enum_tup, items_zip_tup, mk_f, mk_t, LIM, cal_fn, cal_W, cal_meth, cal_init, guard_nil, guard_int, guard_tup, guard_lst]))) hsub)) rfl]
        exact e1)]
    exact exs_rt (ex_ret rfl)
  rw [key, Option.bind_some]
  exact leaveF_newRow (strss_py _)
end Fw
end
section
set_option Elab.async false
set_option linter.all false
set_option autoImplicit false
set_option maxRecDepth 10000
set_option maxHeartbeats 4000000
/-! Pl25: a book drawn in a fit; the due choice of a forwards book. -/
namespace Fw
open PySem
theorem ev_book {P : Prog} {x p i : Nat} (hx : P.funs[x]? = some l22) (hp : P.funs[p]? = some (l27 x p)) (hi : P.funs[i]? = some (l28 x p)) {nums : List Int} (hn : StOk nums) {S : Store} {r : Nat} (hr : r < S.length) (mode : Nat) (hm : mode < 3) (q : Nat) (hq : q ≤ 6) (hq0 : 0 < q) (n c : Nat) (hc : c + 200 < 1000000000) {σ : Ev} (h0 : getV σ 0 = some (.ref r)) :
    ∃ many cs fs c', many ≤ 6 ∧ 1 ≤ many ∧ MadeB mode many cs fs ∧ c ≤ c' ∧ c' ≤ c + 121 ∧ ev (cal P (run P (n + 5))) (.call i [(.var 0), (.b2 .add (.cst (.int 1)) (.call x [(.var 0), (.cst (.int (q : Nat)))])), (.cst (.int (mode : Nat)))]) σ (S.set r (stC nums c)) = some (bookD cs fs, S.set r (stC nums c')) := by
  obtain ⟨v, hv, hd⟩ := ev_draw hx hn hr (n + 4) c q (by omega) hq0 (e := .cst (.int (q : Nat))) (σ := σ) h0 (by rw [ev])
  obtain ⟨cs, fs, c', hmb, h1, h2, hrun⟩ := made_spec hx hp hi hn hr mode hm (v + 1) (by omega) n (c + 1) (by omega)
  refine ⟨v + 1, cs, fs, c', by omega, by omega, hmb, by omega, by omega, ?_⟩
  have ea : ev (cal P (run P (n + 5))) (.b2 .add (.cst (.int 1)) (.call x [(.var 0), (.cst (.int (q : Nat)))])) σ (S.set r (stC nums c)) = some (.int ((v + 1 : Nat) : Int), S.set r (stC nums (c + 1))) :=
    ev_b2i (i := 1) (by rw [ev]) hd (by rw [bin_add_int]; congr 2; omega)
  refine ev_call (ds := [.ref r, .int ((v + 1 : Nat) : Int), .int (mode : Nat)]) (S1 := S.set r (stC nums (c + 1))) ?_ hrun
  have e0 : ev (cal P (run P (n + 5))) (.var 0) σ (S.set r (stC nums c)) = some (.ref r, S.set r (stC nums c)) := by rw [ev, h0]; rfl
  rw [evs, e0]
  · simp only [Option.bind_some]
    rw [evs_2 ea (by rw [ev])]
    rfl
  · intro e h; cases h
/-- the due choice: claim by claim -/
def dueStep (cs : List Str) (fs : List Fm) (W : List Str) (k : Nat) : List Str := if ((fs[k]?).getD .ff).val (say W) then W ++ [(cs[k]?).getD ⟨#[]⟩] else W
def dueW (cs : List Str) (fs : List Fm) (k : Nat) : List Str := (List.range k).foldl (dueStep cs fs) []
theorem dueW_succ (cs : List Str) (fs : List Fm) (k : Nat) : dueW cs fs (k + 1) = dueStep cs fs (dueW cs fs k) k := by
  unfold dueW
  rw [List.range_succ, List.foldl_append]
  rfl
theorem dueW_length (cs : List Str) (fs : List Fm) : ∀ k, (dueW cs fs k).length ≤ k
  | 0 => Nat.le_refl _
  | k + 1 => by
    have := dueW_length cs fs k
    rw [dueW_succ, dueStep]
    split
    · rw [List.length_append, List.length_singleton]; omega
    · omega
end Fw
end
section
set_option Elab.async false
set_option linter.all false
set_option autoImplicit false
set_option maxRecDepth 10000
set_option maxHeartbeats 4000000
/-! Pl26: forwards. -/
namespace Fw
open PySem
theorem ev_bookCs {C : Cal} {e : E} {σ : Ev} {S : Store} {cs : List Str} {fs : List Fm} (h : ev C e σ S = some (bookD cs fs, S)) : ev C (.idx e (.cst (.int 0))) σ S = some (strsD cs, S) := by
  rw [ev, h]
  unfold bookD strsD
  (simp (decide := true) [exs, ex, ev, evs, evo, evc, bindT, bindL, getV, seqOf, de_str, de_int, de_bl, de_non, de_tup, de_lst, de_dic, de_inp, eqD_str, eqD_int, eqD_bl, bin_eq, bin_ne, bin_inn_tup, bin_inn_lst, bin_notin_tup, bin_notin_lst, bin_inn_str, bin_notin_str, bin_add_int, bin_sub_int, bin_add_tup, bin_add_lst, bin_lt_int, bin_gt_int, bin_le_int, bin_ge_int, bin_band, bin_bor, bin_shl, bin_shr, bin_mod, bin_fdiv, bin_mul_int, bin_mul_lst, bin_mul_tup, un_not, un_inv, idx_tup, idx_lst, idx_str, idx_dic, slc_tup, slc_lst, slc_inp, prim_len_tup, prim_len_lst, prim_len_str, prim_int_int, prim_int_bl, prim_tuple_lst, prim_tuple_tup, prim_list_lst, prim_list_tup, prim_all, prim_any, prim_sum, prim_max2, prim_sorted, prim_lr, prim_abs, atI_0, atI_1, atI_2, cut_from1, items_tup, items_lst, items_rng1, items_enum_tup, items_zip_tup, mk_f, mk_t, LIM, cal_fn, cal_W, cal_meth, cal_init, guard_nil, guard_int, guard_tup, guard_lst])
theorem ev_bookFs {C : Cal} {e : E} {σ : Ev} {S : Store} {cs : List Str} {fs : List Fm} (h : ev C e σ S = some (bookD cs fs, S)) : ev C (.idx e (.cst (.int 1))) σ S = some (.tup (Fm.encs fs), S) := by
  rw [ev, h]
  unfold bookD
  (simp (decide := true) [exs, ex, ev, evs, evo, evc, bindT, bindL, getV, seqOf, de_str, de_int, de_bl, de_non, de_tup, de_lst, de_dic, de_inp, eqD_str, eqD_int, eqD_bl, bin_eq, bin_ne, bin_inn_tup, bin_inn_lst, bin_notin_tup, bin_notin_lst, bin_inn_str, bin_notin_str, bin_add_int, bin_sub_int, bin_add_tup, bin_add_lst, bin_lt_int, bin_gt_int, bin_le_int, bin_ge_int, bin_band, bin_bor, bin_shl, bin_shr, bin_mod, bin_fdiv, bin_mul_int, bin_mul_lst, bin_mul_tup, un_not, un_inv, idx_tup, idx_lst, idx_str, idx_dic, slc_tup, slc_lst, slc_inp, prim_len_tup, prim_len_lst, prim_len_str, prim_int_int, prim_int_bl, prim_tuple_lst, prim_tuple_tup, prim_list_lst, prim_list_tup, prim_all, prim_any, prim_sum, prim_max2, prim_sorted, prim_lr, prim_abs, atI_0, atI_1, atI_2, cut_from1, items_tup, items_lst, items_rng1, items_enum_tup, items_zip_tup, mk_f, mk_t, LIM, cal_fn, cal_W, cal_meth, cal_init, guard_nil, guard_int, guard_tup, guard_lst])
theorem ev_csAt {C : Cal} {e f : E} {σ : Ev} {S : Store} {cs : List Str} {k : Nat} (h : ev C e σ S = some (strsD cs, S)) (h2 : ev C f σ S = some (.int (k : Nat), S)) (hk : k < cs.length) : ev C (.idx e f) σ S = some (.str ((cs[k]?).getD ⟨#[]⟩), S) := by
  rw [ev, h]
  simp only [Option.bind_some, h2, strsD, de_tup, idx_tup, atI_nat, List.getElem?_map, List.getElem?_eq_getElem hk, Option.map_some, Option.getD_some]
theorem ev_fsAt {C : Cal} {e f : E} {σ : Ev} {S : Store} {fs : List Fm} {k : Nat} (h : ev C e σ S = some (.tup (Fm.encs fs), S)) (h2 : ev C f σ S = some (.int (k : Nat), S)) (hk : k < fs.length) : ev C (.idx e f) σ S = some (((fs[k]?).getD .ff).enc, S) := by
  rw [ev, h]
  simp only [Option.bind_some, h2, de_tup, idx_tup, atI_nat, Fm.encs_map, List.getElem?_map, List.getElem?_eq_getElem hk, Option.map_some, Option.getD_some]
theorem ev_lenCs {C : Cal} {e : E} {σ : Ev} {S : Store} {cs : List Str} (h : ev C e σ S = some (strsD cs, S)) : ev C (.prim .len [e]) σ S = some (.int (cs.length : Nat), S) :=
  ev_prim (evs_1 h) (by show prim .len [.tup (cs.map .str)] = _; rw [prim_len_tup, List.length_map])
/-- the loop of the due choice -/
theorem due_loop {P : Prog} {t a : Nat} (ha : P.funs[a]? = some l24) (ht : P.funs[t]? = some (l25 t a)) (n : Nat) (cs : List Str) (fs : List Fm) (T : Store) (st x4 x5 : Option D) (hk : cs.length ≤ 6) (hfs : fs.length = cs.length) (hf : ∀ f ∈ fs, f.dep ≤ 3 ∧ f.parts ≤ 1000) :
    ∃ x3, forL (fun S' => guard T S' [.int (cs.length : Nat)]) (.name 3) (fun σ s => exs (cal P (run P (n + 5))) [.ife (.call t [(.idx (.idx (.var 1) (.cst (.int 1))) (.var 3)), (.var 2)]) [.asg (.name 2) (.b2 .add (.var 2) (.tup [(.idx (.idx (.var 1) (.cst (.int 0))) (.var 3))]))] []] σ s) ((List.range cs.length).map fun i : Nat => D.int (i : Nat)) [st, some (bookD cs fs), some (strsD []), none, x4, x5] T = some (.nx, [st, some (bookD cs fs), some (strsD (dueW cs fs cs.length)), x3, x4, x5], T) := by
  refine forL_inv (g := fun S' => guard T S' [.int (cs.length : Nat)]) (t := .name 3) (fun i : Nat => D.int (i : Nat))
    (fun q σ S' => ∃ (k : Nat) (x3 : Option D), q = (List.range cs.length).drop k ∧ k + q.length = cs.length ∧ S' = T ∧ σ = [st, some (bookD cs fs), some (strsD (dueW cs fs k)), x3, x4, x5])
    (fun res => ∃ x3, res = some (.nx, [st, some (bookD cs fs), some (strsD (dueW cs fs cs.length)), x3, x4, x5], T))
    ⟨0, none, rfl, by simp, rfl, rfl⟩ ?_ ?_
  · rintro k q σ S' ⟨k', x3, hq, hlen, hS', hσ⟩
    subst hS' hσ
    rw [List.length_cons] at hlen
    have hkk : k = k' := by
      have h2 := congrArg (fun l : List Nat => l[0]?) hq
      simp only [List.getElem?_cons_zero, List.getElem?_drop, Nat.add_zero] at h2
      rw [List.getElem?_range (by omega)] at h2
      exact Option.some.inj h2
    subst hkk
    have hq2 : q = (List.range cs.length).drop (k + 1) := by
      have h2 := congrArg List.tail hq
      rw [List.tail_cons, List.tail_drop] at h2
      exact h2
    have hkc : k < cs.length := by omega
    have hkf : k < fs.length := by omega
    have hm := hf fs[k] (List.getElem_mem hkf)
    have hfk : (fs[k]?).getD .ff = fs[k] := by rw [List.getElem?_eq_getElem hkf]; rfl
    refine ⟨[st, some (bookD cs fs), some (strsD (dueW cs fs k)), some (.int (k : Nat)), x4, x5], rfl, .inl ⟨[st, some (bookD cs fs), some (strsD (dueW cs fs (k + 1))), some (.int (k : Nat)), x4, x5], S', .inl ?_, rfl, k + 1, _, hq2, by omega, rfl, rfl⟩⟩
    have et := ltrue_spec ha ht (dueW cs fs k) S' (n + 3) ((fs[k]?).getD .ff) (by rw [hfk]; omega) (by rw [hfk]; exact hm.2)
    have ec : ev (cal P (run P (n + 5))) (.call t [(.idx (.idx (.var 1) (.cst (.int 1))) (.var 3)), (.var 2)]) [st, some (bookD cs fs), some (strsD (dueW cs fs k)), some (.int (k : Nat)), x4, x5] S' = some (.bl (((fs[k]?).getD .ff).val (say (dueW cs fs k))), S') :=
      ev_call (evs_2 (ev_fsAt (ev_bookFs rfl) rfl hkf) rfl) et
    show exs _ [_] _ _ = _
    rw [dueW_succ, dueStep]
    cases z : ((fs[k]?).getD .ff).val (say (dueW cs fs k)) with
    | true =>
      rw [z] at ec
      have hl := dueW_length cs fs k
      have ea : ev (cal P (run P (n + 5))) (.b2 .add (.var 2) (.tup [(.idx (.idx (.var 1) (.cst (.int 0))) (.var 3))])) [st, some (bookD cs fs), some (strsD (dueW cs fs k)), some (.int (k : Nat)), x4, x5] S' = some (strsD (dueW cs fs k ++ [(cs[k]?).getD ⟨#[]⟩]), S') := by
        have e1 : ev (cal P (run P (n + 5))) (.tup [(.idx (.idx (.var 1) (.cst (.int 0))) (.var 3))]) [st, some (bookD cs fs), some (strsD (dueW cs fs k)), some (.int (k : Nat)), x4, x5] S' = some (.tup [.str ((cs[k]?).getD ⟨#[]⟩)], S') := by
          rw [ev, evs_1 (ev_csAt (ev_bookCs rfl) rfl hkc)]; rfl
        rw [ev, show ev (cal P (run P (n + 5))) (.var 2) [st, some (bookD cs fs), some (strsD (dueW cs fs k)), some (.int (k : Nat)), x4, x5] S' = some (strsD (dueW cs fs k), S') from rfl]
        simp only [Option.bind_some, e1]
        simp only [strsD, de_tup, bin_add_tup, List.length_map, List.length_singleton]
        rw [if_pos (by unfold LIM; omega), List.map_append]
        rfl
      rw [exs_nx (σ' := [st, some (bookD cs fs), some (strsD (dueW cs fs k ++ [(cs[k]?).getD ⟨#[]⟩])), some (.int (k : Nat)), x4, x5]) (S' := S') (by
        rw [ex_if_t ec, exs_nx (ex_asg ea rfl), exs_nil]; rfl), exs_nil]
      rfl
    | false =>
      rw [z] at ec
      rw [exs_nx (σ' := [st, some (bookD cs fs), some (strsD (dueW cs fs k)), some (.int (k : Nat)), x4, x5]) (S' := S') (by rw [ex_if_f ec, exs_nil]), exs_nil]
      simp
  · rintro σ S' ⟨k, x3, hq, hlen, hS', hσ⟩
    subst hS' hσ
    rw [List.length_nil, Nat.add_zero] at hlen
    subst hlen
    exact ⟨x3, rfl⟩
end Fw
end
section
set_option Elab.async false
set_option linter.all false
set_option autoImplicit false
set_option maxRecDepth 10000
set_option maxHeartbeats 4000000
/-! Pl27: the forwards fit. -/
namespace Fw
open PySem
theorem encL_dep (L : List Lb) : (encL L).dep ≤ 1 := by
  rw [encL_strs]
  exact dep_tup (n := 0) fun x hx => by obtain ⟨s, _, rfl⟩ := List.mem_map.mp hx; simp [dep_str]
theorem encL_sx (L : List Lb) : Sx (encL L) := by rw [encL_strs]; exact Sx.strs _
theorem rowsD_sx (A : List (List Lb)) : Sx (.tup (A.map encL)) :=
  .tup (fun x hx => by obtain ⟨L, _, rfl⟩ := List.mem_map.mp hx; exact encL_sx L) (Nat.le_trans (dep_tup (n := 1) fun x hx => by obtain ⟨L, _, rfl⟩ := List.mem_map.mp hx; exact encL_dep L) (by omega))
theorem map_encL_inj : ∀ {A B : List (List Lb)}, A.map encL = B.map encL ↔ A = B
  | [], [] => by simp
  | [], _ :: _ => by simp
  | _ :: _, [] => by simp
  | a :: A, b :: B => by
    rw [List.map_cons, List.map_cons, List.cons.injEq, List.cons.injEq, encL_inj, map_encL_inj]
theorem eqD_rows (A B : List (List Lb)) : eqD (.tup (A.map encL)) (.tup (B.map encL)) = some (decide (A = B)) := by
  rw [Sx.eqD (rowsD_sx A) (rowsD_sx B)]
  congr 1
  rw [decide_eq_decide, D.tup.injEq]
  exact map_encL_inj
def fiveW : List Way := [.com, .gro, .pre, .mod, .sta]
theorem five_loop {P : Prog} {o : Nat → Nat} {cc : Nat} (B : Base P o cc) (h7 : P.funs[o 7]? = some b7) (h9 : P.funs[o 9]? = some b9) (h16 : P.funs[o 16]? = some (b16 o)) (h17 : P.funs[o 17]? = some (b17 o cc)) (n : Nat) (cs : List Str) (fs : List Fm) (T : Store) (ok : BookOk cs fs) (en : Ends cs fs) (due : List (List Lb)) (hw : ∀ w ∈ fiveW, wayL cs fs w = due) (st x2 x3 : Option D) (g : Store → Bool) (hg : g T = true) :
    ∃ x5, forL g (.name 5) (fun σ s => exs (cal P (run P (n + 14))) [.ife (.b2 .ne (.call (o 17) [(.var 1), (.var 5)]) (.var 4)) [.ret (.cst (.bl false))] []] σ s) (fiveW.map fun w => D.str w.str) [st, some (bookD cs fs), x2, x3, some (.tup (due.map encL)), none] T = some (.nx, [st, some (bookD cs fs), x2, x3, some (.tup (due.map encL)), x5], T) := by
  refine forL_inv (g := g) (t := .name 5) (fun w : Way => D.str w.str)
    (fun q σ S' => (∀ w ∈ q, w ∈ fiveW) ∧ S' = T ∧ ∃ x5, σ = [st, some (bookD cs fs), x2, x3, some (.tup (due.map encL)), x5])
    (fun res => ∃ x5, res = some (.nx, [st, some (bookD cs fs), x2, x3, some (.tup (due.map encL)), x5], T))
    ⟨fun w h => h, rfl, none, rfl⟩ ?_ ?_
  · rintro w q σ S' ⟨hq, hS', x5, hσ⟩
    subst hS' hσ
    refine ⟨[st, some (bookD cs fs), x2, x3, some (.tup (due.map encL)), some (.str w.str)], rfl, .inl ⟨[st, some (bookD cs fs), x2, x3, some (.tup (due.map encL)), some (.str w.str)], S', .inl ?_, hg, fun v hv => hq v (List.mem_cons_of_mem _ hv), rfl, _, rfl⟩⟩
    have e1 := ways_spec B h7 h9 h16 h17 n cs fs S' ok en w
    unfold waysD at e1
    rw [hw w (hq w List.mem_cons_self)] at e1
    have ec : ev (cal P (run P (n + 14))) (.call (o 17) [(.var 1), (.var 5)]) [st, some (bookD cs fs), x2, x3, some (.tup (due.map encL)), some (.str w.str)] S' = some (.tup (due.map encL), S') := ev_call (evs_2 rfl rfl) e1
    have ne : ev (cal P (run P (n + 14))) (.b2 .ne (.call (o 17) [(.var 1), (.var 5)]) (.var 4)) [st, some (bookD cs fs), x2, x3, some (.tup (due.map encL)), some (.str w.str)] S' = some (.bl false, S') := by
      rw [ev, ec]
      simp only [Option.bind_some, ev, getV, List.getElem?_cons_zero, List.getElem?_cons_succ, Option.join_some, Option.map_some, de_tup, bin_ne, eqD_rows, decide_true, Bool.not_true]
    show exs _ [_] _ _ = _
    rw [exs_nx (σ' := [st, some (bookD cs fs), x2, x3, some (.tup (due.map encL)), some (.str w.str)]) (S' := S') (by rw [ex_if_f ne, exs_nil]), exs_nil]
  · rintro σ S' ⟨_, hS', x5, hσ⟩
    subst hS' hσ
    exact ⟨x5, rfl⟩
end Fw
end
section
set_option Elab.async false
set_option linter.all false
set_option autoImplicit false
set_option maxRecDepth 10000
set_option maxHeartbeats 4000000
/-! Pl28: the forwards fit, the whole. -/
namespace Fw
open PySem
structure FwdMath (cs : List Str) (fs : List Fm) : Prop where
  en : Ends cs fs
  way : ∀ w ∈ fiveW, wayL cs fs w = [labW cs (dueW cs fs cs.length)]
  fix : gams cs fs (labW cs (dueW cs fs cs.length)) = labW cs (dueW cs fs cs.length)
def l31 (x m t lb w17 w18 : Nat) : FD := ⟨1, 5, [
  .asg (.name 1) (.call m [(.var 0), (.b2 .add (.cst (.int 1)) (.call x [(.var 0), (.cst (.int 6))])), (.cst (.int 2))]),
  .asg (.name 2) (.tup []),
  .for_ (.name 3) .rng1 [(.prim .len [(.idx (.var 1) (.cst (.int 0)))])] [.ife (.call t [(.idx (.idx (.var 1) (.cst (.int 1))) (.var 3)), (.var 2)]) [.asg (.name 2) (.b2 .add (.var 2) (.tup [(.idx (.idx (.var 1) (.cst (.int 0))) (.var 3))]))] []],
  .asg (.name 4) (.tup [(.call lb [(.var 1), (.var 2)])]),
  .for_ (.name 5) .seq [(.lst false [(.cst (.str "complete")), (.cst (.str "grounded")), (.cst (.str "preferred")), (.cst (.str "model")), (.cst (.str "stable"))])] [.ife (.b2 .ne (.call w17 [(.var 1), (.var 5)]) (.var 4)) [.ret (.cst (.bl false))] []],
  .ret (.b2 .eq (.call w18 [(.var 1), (.idx (.var 4) (.cst (.int 0)))]) (.idx (.var 4) (.cst (.int 0))))]⟩
theorem fwd_spec {P : Prog} {o : Nat → Nat} {cc : Nat} (B : Base P o cc) (h7 : P.funs[o 7]? = some b7) (h8 : P.funs[o 8]? = some b8) (h9 : P.funs[o 9]? = some b9) (h16 : P.funs[o 16]? = some (b16 o)) (h17 : P.funs[o 17]? = some (b17 o cc)) (h18 : P.funs[o 18]? = some (b18 o cc))
    {x p m a t lb i : Nat} (hx : P.funs[x]? = some l22) (hp : P.funs[p]? = some (l27 x p)) (hmd : P.funs[m]? = some (l28 x p)) (ha : P.funs[a]? = some l24) (ht : P.funs[t]? = some (l25 t a)) (hlb : P.funs[lb]? = some l30) (hi : P.funs[i]? = some (l31 x m t lb (o 17) (o 18)))
    (math : ∀ many cs fs, many ≤ 6 → MadeB 2 many cs fs → FwdMath cs fs)
    {nums : List Int} (hn : StOk nums) {S : Store} {r : Nat} (hr : r < S.length) (n c : Nat) (hc : c + 200 < 1000000000) :
    ∃ c', c ≤ c' ∧ c' ≤ c + 121 ∧ run P (n + 15) i [.ref r] (S.set r (stC nums c)) = some (.bl true, S.set r (stC nums c')) := by
  obtain ⟨many, cs, fs, c', hm6, hm1, hmb, hc1, hc2, hbook⟩ := ev_book hx hp hmd hn hr 2 (by omega) 6 (by omega) (by omega) (n + 9) c hc (σ := [some (.ref r), none, none, none, none, none]) rfl
  have ok := hmb.ok hm6
  have mt := math many cs fs hm6 hmb
  have hk := ok.n6
  have hfd : ∀ f ∈ fs, f.dep ≤ 3 ∧ f.parts ≤ 1000 := fun f hf => by
    obtain ⟨k, hkl, e⟩ := List.getElem_of_mem hf
    have h := hmb.each k f (by rw [← e]; exact List.getElem?_eq_getElem hkl)
    have h1 := h.pts
    have h2 := h.dep
    exact ⟨by omega, by omega⟩
  refine ⟨c', hc1, hc2, ?_⟩
  rw [run_eq hi rfl]
  generalize hT : S.set r (stC nums c') = T
  rw [hT] at hbook
  have hbook' : ev (cal P (run P (n + 14))) (.call m [(.var 0), (.b2 .add (.cst (.int 1)) (.call x [(.var 0), (.cst (.int 6))])), (.cst (.int 2))]) [some (.ref r), none, none, none, none, none] (S.set r (stC nums c)) = some (bookD cs fs, T) := hbook
  generalize hdue : labW cs (dueW cs fs cs.length) = due
  have fixd := mt.fix
  have wayd := mt.way
  rw [hdue] at fixd wayd
  have hdl : due.length = cs.length := by rw [← hdue]; unfold labW; rw [List.length_map]
  obtain ⟨x3, e3⟩ := due_loop ha ht (n + 9) cs fs T (some (.ref r)) none none hk ok.len hfd
  obtain ⟨x5, e5⟩ := five_loop B h7 h9 h16 h17 n cs fs T ok mt.en [due] wayd (some (.ref r)) (some (strsD (dueW cs fs cs.length))) x3 (fun S' => guard T S' [.lst (fiveW.map fun w => D.str w.str)]) rfl
  have okm : okRng 0 ((cs.length : Nat) : Int) = true := okRng_of (by omega) (by omega) (by omega) (by omega)
  have el := lab_spec hlb (n + 13) cs fs (dueW cs fs cs.length) T hk
  rw [hdue] at el
  have s4 : ev (cal P (run P (n + 14))) (.tup [(.call lb [(.var 1), (.var 2)])]) [some (.ref r), some (bookD cs fs), some (strsD (dueW cs fs cs.length)), x3, none, none] T = some (.tup ([due].map encL), T) := by
    rw [ev, evs_1 (ev_call (ds := [bookD cs fs, strsD (dueW cs fs cs.length)]) (S1 := T) (evs_2 rfl rfl) el)]
    rfl
  have en := next_spec B h8 h9 h18 n cs fs T ok due hdl
  rw [fixd] at en
  have i0 : ev (cal P (run P (n + 14))) (.idx (.var 4) (.cst (.int 0))) [some (.ref r), some (bookD cs fs), some (strsD (dueW cs fs cs.length)), x3, some (.tup ([due].map encL)), x5] T = some (encL due, T) := by
    simp only [List.map_cons, List.map_nil]
    (simp (decide := true) [exs, ex, ev, evs, evo, evc, bindT, bindL, getV, seqOf, de_str, de_int, de_bl, de_non, de_tup, de_lst, de_dic, de_inp, eqD_str, eqD_int, eqD_bl, bin_eq, bin_ne, bin_inn_tup, bin_inn_lst, bin_notin_tup, bin_notin_lst, bin_inn_str, bin_notin_str, bin_add_int, bin_sub_int, bin_add_tup, bin_add_lst, bin_lt_int, bin_gt_int, bin_le_int, bin_ge_int, bin_band, bin_bor, bin_shl, bin_shr, bin_mod, bin_fdiv, bin_mul_int, bin_mul_lst, bin_mul_tup, un_not, un_inv, idx_tup, idx_lst, idx_str, idx_dic, slc_tup, slc_lst, slc_inp, prim_len_tup, prim_len_lst, prim_len_str, prim_int_int, prim_int_bl, prim_tuple_lst, prim_tuple_tup, prim_list_lst, prim_list_tup, prim_all, prim_any, prim_sum, prim_max2, prim_sorted, prim_lr, prim_abs, atI_0, atI_1, atI_2, cut_from1, items_tup, items_lst, items_rng1, items_enum_tup, items_zip_tup, mk_f, mk_t, LIM, cal_fn, cal_W, cal_meth, cal_init, guard_nil, guard_int, guard_tup, guard_lst])
  have er : ev (cal P (run P (n + 14))) (.b2 .eq (.call (o 18) [(.var 1), (.idx (.var 4) (.cst (.int 0)))]) (.idx (.var 4) (.cst (.int 0)))) [some (.ref r), some (bookD cs fs), some (strsD (dueW cs fs cs.length)), x3, some (.tup ([due].map encL)), x5] T = some (.bl true, T) := by
    have e18 : ev (cal P (run P (n + 14))) (.call (o 18) [(.var 1), (.idx (.var 4) (.cst (.int 0)))]) [some (.ref r), some (bookD cs fs), some (strsD (dueW cs fs cs.length)), x3, some (.tup ([due].map encL)), x5] T = some (encL due, T) := ev_call (ds := [bookD cs fs, encL due]) (S1 := T) (evs_2 rfl i0) en
    have := ev_eq (L := due) (M := due) e18 i0
    rwa [decide_eq_true rfl] at this
  have key : exs (cal P (run P (n + 14))) (l31 x m t lb (o 17) (o 18)).body ([.ref r].map some ++ List.replicate (l31 x m t lb (o 17) (o 18)).nloc none) (S.set r (stC nums c)) = some (.rt (.bl true), [some (.ref r), some (bookD cs fs), some (strsD (dueW cs fs cs.length)), x3, some (.tup ([due].map encL)), x5], T) := by
    show exs _ [_, _, _, _, _, _] [some (.ref r), none, none, none, none, none] _ = _
    rw [exs_nx (σ' := [some (.ref r), some (bookD cs fs), none, none, none, none]) (S' := T) (ex_asg hbook' rfl),
      exs_nx (σ' := [some (.ref r), some (bookD cs fs), some (strsD []), none, none, none]) (S' := T) (ex_asg (d := strsD []) rfl rfl),
      exs_nx (σ' := [some (.ref r), some (bookD cs fs), some (strsD (dueW cs fs cs.length)), x3, none, none]) (S' := T) (by
        rw [ex_for (ds := [.int (cs.length : Nat)]) (S1 := T) (evs_1 (ev_lenCs (ev_bookCs rfl))) (by rw [items_rng1, if_pos okm, rng0])]
        exact e3),
      exs_nx (σ' := [some (.ref r), some (bookD cs fs), some (strsD (dueW cs fs cs.length)), x3, some (.tup ([due].map encL)), none]) (S' := T) (ex_asg s4 rfl),
      exs_nx (σ' := [some (.ref r), some (bookD cs fs), some (strsD (dueW cs fs cs.length)), x3, some (.tup ([due].map encL)), x5]) (S' := T) (by
        rw [ex_for (ds := [.lst (fiveW.map fun w => D.str w.str)]) (S1 := T) rfl rfl]
        exact e5)]
    exact exs_rt (ex_ret er)
  rw [key, Option.bind_some, ← hT]
  have e : S.set r (stC nums c') = (S.set r (stC nums c)).set r (stC nums c') := by rw [List.set_set]
  rw [e]
  exact leaveF_set0 (fun b => stC_ok nums c' b) rfl
end Fw
end
section
set_option Elab.async false
set_option linter.all false
set_option autoImplicit false
set_option maxRecDepth 10000
set_option maxHeartbeats 2000000
/-! Pl29: rows of labels sorted. -/
namespace Fw
open PySem
theorem sLt_lb (a b : Lb) (h : a ≠ b) : sLt a.str b.str = true ∨ sLt b.str a.str = true := by
  cases a <;> cases b <;> first | exact absurd rfl h | (left; decide) | (right; decide)
theorem lexR_anti : ∀ L M : List Lb, lexR sLt (strL L) (strL M) = false → lexR sLt (strL M) (strL L) = false → L = M
  | [], [], _, _ => rfl
  | [], _ :: _, h, _ => by simp [strL, lexR] at h
  | _ :: _, [], _, h => by simp [strL, lexR] at h
  | a :: L, b :: M, h1, h2 => by
    simp only [strL, List.map_cons, lexR] at h1 h2
    by_cases e : a = b
    · subst e
      rw [if_pos rfl] at h1 h2
      rw [lexR_anti L M h1 h2]
    · have n1 : ¬ a.str = b.str := fun w => e (Lb.str_inj.mp w)
      have n2 : ¬ b.str = a.str := fun w => e (Lb.str_inj.mp w).symm
      rw [if_neg n1] at h1
      rw [if_neg n2] at h2
      rcases sLt_lb a b e with w | w
      · rw [w] at h1; cases h1
      · rw [w] at h2; cases h2
end Fw
end
section
set_option Elab.async false
set_option linter.all false
set_option autoImplicit false
set_option maxRecDepth 10000
set_option maxHeartbeats 2000000
/-! Pl30: a permutation of sorted rows, sorted. -/
namespace Fw
open PySem
def dk (d : D) : List (Int ⊕ List Nat) := W.keyToks d.py
theorem dle_key (a b : D) : dle a b = !PyProof.Rows.lexLt PyProof.Rows.itemOrd (dk b) (dk a) := rfl
theorem dle_total (a b : D) : (dle a b || dle b a) = true := by
  rw [dle_key, dle_key]
  cases h1 : PyProof.Rows.lexLt PyProof.Rows.itemOrd (dk b) (dk a) with
  | false => rfl
  | true =>
    cases h2 : PyProof.Rows.lexLt PyProof.Rows.itemOrd (dk a) (dk b) with
    | false => rfl
    | true =>
      have := PyProof.Rows.lex_trans _ _ _ h1 h2
      rw [PyProof.Rows.lex_irrefl] at this
      cases this
theorem dle_trans (a b c : D) (h1 : dle a b = true) (h2 : dle b c = true) : dle a c = true := by
  rw [dle_key] at *
  rw [Bool.not_eq_true'] at *
  cases h3 : PyProof.Rows.lexLt PyProof.Rows.itemOrd (dk c) (dk a) with
  | false => rfl
  | true =>
    cases h4 : PyProof.Rows.lexLt PyProof.Rows.itemOrd (dk a) (dk b) with
    | true => have := PyProof.Rows.lex_trans _ _ _ h3 h4; rw [h2] at this; cases this
    | false =>
      have e := PyProof.Rows.lex_total _ _ h1 h4
      rw [e] at h2
      rw [h2] at h3; cases h3
theorem sort_labels {X Y : List (List Lb)} (hX : X.Perm Y) (hY : (Y.map strL).Pairwise fun a b => lexR sLt b a = false) : sortD (X.map encL) = some (Y.map encL) := by
  have e : ((fun r => D.tup (List.map D.str r)) ∘ strL) = encL := by funext L; exact (encL_strs L).symm
  have h := sortD_strs (X.map strL)
  rw [List.map_map, e] at h
  rw [h]
  congr 1
  have p1 : ((X.map encL).mergeSort dle).Perm (Y.map encL) := (List.mergeSort_perm _ _).trans (hX.map encL)
  have s1 : ((X.map encL).mergeSort dle).Pairwise fun a b => dle a b = true := List.pairwise_mergeSort dle_trans dle_total _
  have s2 : (Y.map encL).Pairwise fun a b => dle a b = true := by
    rw [List.pairwise_map] at hY ⊢
    refine hY.imp fun {a b} w => ?_
    rw [encL_strs, encL_strs, dle_strs]
    have w' : lexR sLt (b.map Lb.str) (a.map Lb.str) = false := w
    rw [w']; rfl
  refine List.Perm.eq_of_pairwise ?_ s1 s2 p1
  intro a b ha hb h1 h2
  obtain ⟨L, _, rfl⟩ := List.mem_map.mp (p1.mem_iff.mp ha)
  obtain ⟨M, _, rfl⟩ := List.mem_map.mp hb
  rw [encL_strs, encL_strs, dle_strs, Bool.not_eq_true'] at h1 h2
  rw [lexR_anti L M h2 h1]
end Fw
end
section
set_option Elab.async false
set_option linter.all false
set_option autoImplicit false
set_option maxRecDepth 10000
set_option maxHeartbeats 2000000
/-! Pl31: the labels of the models, sorted. -/
namespace Fw
open PySem
theorem ev_modelRows {P : Prog} {lb : Nat} (hlb : P.funs[lb]? = some l30) (n : Nat) (cs : List Str) (fs : List Fm) (T : Store) (hk : cs.length ≤ 6) {rows : List (List Str)} (hl : rows.length ≤ 1000) (w : Way) (hp : (rows.map (labW cs)).Perm (wayL cs fs w)) {σ : Ev} {its : List E} {j : Nat} (hits : evs (cal P (run P (n + 1))) its σ T = some ([.lst (rows.map strsD)], T)) (h1 : getV σ 1 = some (bookD cs fs)) (hj : j < σ.length) (hj1 : j ≠ 1) :
    ev (cal P (run P (n + 1))) (.prim .tuple [(.prim .sorted [(.comp false (.call lb [(.var 1), (.var j)]) (.name j) .seq its [])])]) σ T = some (waysD cs fs w, T) := by
  have ec : ev (cal P (run P (n + 1))) (.comp false (.call lb [(.var 1), (.var j)]) (.name j) .seq its []) σ T = some (.lst ((rows.map (labW cs)).map encL), T) := by
    rw [ev_comp (ds := [.lst (rows.map strsD)]) (S1 := T) (xs := rows.map strsD) hits rfl, compL_mapc strsD (fun W => encL (labW cs W)) rfl]
    · simp only [Option.bind_some, mk_f, List.length_map]
      rw [if_pos (by unfold LIM; omega), List.map_map]
      rfl
    · intro W _
      have g1 : getV (σ.set j (some (strsD W))) 1 = some (bookD cs fs) := by
        unfold getV at *
        rw [List.getElem?_set_ne hj1]
        exact h1
      have gj : getV (σ.set j (some (strsD W))) j = some (strsD W) := by unfold getV; rw [List.getElem?_set_self hj]; rfl
      have e := ev_call (C := cal P (run P (n + 1))) (es := [(.var 1), (.var j)]) (σ := σ.set j (some (strsD W))) (S := T) (ds := [bookD cs fs, strsD W]) (S1 := T) (evs_2 (by rw [ev, g1]; rfl) (by rw [ev, gj]; rfl)) (lab_spec hlb n cs fs W T hk)
      simp only [bindT, Option.bind_some, evc, if_true, e]
  have es : ev (cal P (run P (n + 1))) (.prim .sorted [(.comp false (.call lb [(.var 1), (.var j)]) (.name j) .seq its [])]) σ T = some (.lst ((wayL cs fs w).map encL), T) :=
    ev_prim (evs_1 ec) (by show prim .sorted [.lst _] = _; rw [prim_sorted, sort_labels hp (wayL_sorted cs fs w)]; rfl)
  exact ev_prim (evs_1 es) rfl
end Fw
end
section
set_option Elab.async false
set_option linter.all false
set_option autoImplicit false
set_option maxRecDepth 10000
set_option maxHeartbeats 4000000
/-! Pl32: the attacks fit. -/
namespace Fw
open PySem
structure AttMath (cs : List Str) (fs : List Fm) : Prop where
  en : Ends cs fs
  sta : wayL cs fs .sta = wayL cs fs .mod
  mod : (((subsL cs).filter (isModel cs fs)).map (labW cs)).Perm (wayL cs fs .mod)
  lk : ∀ p ∈ linkL cs fs, p.2.2 = "attacks"
def l33 (x m lb md w17 w20 : Nat) : FD := ⟨1, 5, [
  .asg (.name 1) (.call m [(.var 0), (.b2 .add (.cst (.int 1)) (.call x [(.var 0), (.cst (.int 4))])), (.cst (.int 1))]),
  .asg (.name 2) (.prim .tuple [(.prim .sorted [(.comp false (.call lb [(.var 1), (.var 3)]) (.name 3) .seq [(.call md [(.var 1)])] [])])]),
  .ife (.or (.b2 .ne (.call w17 [(.var 1), (.cst (.str "model"))]) (.var 2)) (.b2 .ne (.call w17 [(.var 1), (.cst (.str "stable"))]) (.var 2))) [.ret (.cst (.bl false))] [],
  .ret (.prim .all [(.comp false (.b2 .eq (.var 5) (.cst (.str "attacks"))) (.tup [3, 4, 5]) .seq [(.call w20 [(.var 1)])] [])])]⟩
theorem att_spec {P : Prog} {o : Nat → Nat} {cc : Nat} (B : Base P o cc) (h7 : P.funs[o 7]? = some b7) (h9 : P.funs[o 9]? = some b9) (h16 : P.funs[o 16]? = some (b16 o)) (h17 : P.funs[o 17]? = some (b17 o cc)) (h19 : P.funs[o 19]? = some (b19 o cc)) (h20 : P.funs[o 20]? = some (b20 o))
    {x p m a t s lb md i : Nat} (hx : P.funs[x]? = some l22) (hp : P.funs[p]? = some (l27 x p)) (hmd : P.funs[m]? = some (l28 x p)) (ha : P.funs[a]? = some l24) (ht : P.funs[t]? = some (l25 t a)) (hs : P.funs[s]? = some l23) (hlb : P.funs[lb]? = some l30) (hml : P.funs[md]? = some (l29 t s)) (hi : P.funs[i]? = some (l33 x m lb md (o 17) (o 20)))
    (math : ∀ many cs fs, many ≤ 6 → MadeB 1 many cs fs → AttMath cs fs)
    {nums : List Int} (hn : StOk nums) {S : Store} {r : Nat} (hr : r < S.length) (n c : Nat) (hc : c + 200 < 1000000000) :
    ∃ c', c ≤ c' ∧ c' ≤ c + 121 ∧ run P (n + 16) i [.ref r] (S.set r (stC nums c)) = some (.bl true, S.set r (stC nums c')) := by
  obtain ⟨many, cs, fs, c', hm6, hm1, hmb, hc1, hc2, hbook⟩ := ev_book hx hp hmd hn hr 1 (by omega) 4 (by omega) (by omega) (n + 10) c hc (σ := [some (.ref r), none, none, none, none, none]) rfl
  have ok := hmb.ok hm6
  have mt := math many cs fs hm6 hmb
  have hk := ok.n6
  have hfd : ∀ f ∈ fs, f.dep ≤ 3 ∧ f.parts ≤ 1000 := fun f hf => by
    obtain ⟨k, hkl, e⟩ := List.getElem_of_mem hf
    have h := hmb.each k f (by rw [← e]; exact List.getElem?_eq_getElem hkl)
    have h1 := h.pts
    have h2 := h.dep
    exact ⟨by omega, by omega⟩
  refine ⟨c', hc1, hc2, ?_⟩
  rw [run_eq hi rfl]
  generalize hT : S.set r (stC nums c') = T
  rw [hT] at hbook
  have hbook' : ev (cal P (run P (n + 15))) (.call m [(.var 0), (.b2 .add (.cst (.int 1)) (.call x [(.var 0), (.cst (.int 4))])), (.cst (.int 1))]) [some (.ref r), none, none, none, none, none] (S.set r (stC nums c)) = some (bookD cs fs, T) := hbook
  obtain ⟨rows, hperm, hrows⟩ := models_spec ha ht hs hml (n + 9) cs fs T hk ok.len hfd
  have hrl : rows.length ≤ 1000 := by
    rw [hperm.length_eq]
    refine Nat.le_trans (List.length_filter_le _ _) ?_
    rw [subsL_length]
    exact Nat.le_trans (Nat.pow_le_pow_right (by omega) hk) (by decide)
  have e2 := ev_modelRows (σ := [some (.ref r), some (bookD cs fs), none, none, none, none]) (its := [(.call md [(.var 1)])]) (j := 3) hlb (n + 14) cs fs T hk hrl .mod ((hperm.map _).trans mt.mod) (evs_1 (ev_call (ds := [bookD cs fs]) (S1 := T) (evs_1 rfl) hrows)) rfl (by simp) (by omega)
  have wm := ways_spec B h7 h9 h16 h17 (n + 1) cs fs T ok mt.en .mod
  have ws := ways_spec B h7 h9 h16 h17 (n + 1) cs fs T ok mt.en .sta
  have lk := links_spec B h9 h19 h20 n cs fs T ok
  have ne : ∀ (w : Way), wayL cs fs w = wayL cs fs .mod → run P (n + 1 + 14) (o 17) [bookD cs fs, .str w.str] T = some (waysD cs fs w, T) → ev (cal P (run P (n + 15))) (.b2 .ne (.call (o 17) [(.var 1), (.cst (.str w.str))]) (.var 2)) [some (.ref r), some (bookD cs fs), some (waysD cs fs .mod), none, none, none] T = some (.bl false, T) := fun w hw h => by
    have ec : ev (cal P (run P (n + 15))) (.call (o 17) [(.var 1), (.cst (.str w.str))]) [some (.ref r), some (bookD cs fs), some (waysD cs fs .mod), none, none, none] T = some (waysD cs fs w, T) := ev_call (evs_2 rfl rfl) h
    rw [ev, ec]
    have q := eqD_rows (wayL cs fs w) (wayL cs fs .mod)
    rw [decide_eq_true hw] at q
    simp only [Option.bind_some, ev, getV, List.getElem?_cons_zero, List.getElem?_cons_succ, Option.join_some, Option.map_some, waysD, de_tup, bin_ne, q, Bool.not_true]
  have el : ev (cal P (run P (n + 15))) (.prim .all [(.comp false (.b2 .eq (.var 5) (.cst (.str "attacks"))) (.tup [3, 4, 5]) .seq [(.call (o 20) [(.var 1)])] [])]) [some (.ref r), some (bookD cs fs), some (waysD cs fs .mod), none, none, none] T = some (.bl true, T) := by
    refine all_bl_true (linkL cs fs) ?_
    rw [ev_comp (ds := [.tup ((linkL cs fs).map tri)]) (S1 := T) (xs := (linkL cs fs).map tri) (evs_1 (ev_call (evs_1 rfl) lk)) rfl, compL_mapc tri (fun _ => D.bl true) rfl]
    · simp only [Option.bind_some, mk_f, List.length_map]
      have hll : (linkL cs fs).length ≤ LIM := Nat.le_trans (show (linkL cs fs).length ≤ (linkAll cs fs).length from List.length_filter_le _ _) (Nat.le_trans (linkAll_length cs fs hk) (by unfold LIM; omega))
      rw [if_pos hll]
    · rintro ⟨u, v, k⟩ hm
      have := mt.lk _ hm
      simp only at this
      subst this
      simp only [tri]
      (simp (decide := true) [exs, ex, ev, evs, evo, evc, bindT, bindL, getV, seqOf, de_str, de_int, de_bl, de_non, de_tup, de_lst, de_dic, de_inp, eqD_str, eqD_int, eqD_bl, bin_eq, bin_ne, bin_inn_tup, bin_inn_lst, bin_notin_tup, bin_notin_lst, bin_inn_str, bin_notin_str, bin_add_int, bin_sub_int, bin_add_tup, bin_add_lst, bin_lt_int, bin_gt_int, bin_le_int, bin_ge_int, bin_band, bin_bor, bin_shl, bin_shr, bin_mod, bin_fdiv, bin_mul_int, bin_mul_lst, bin_mul_tup, un_not, un_inv, idx_tup, idx_lst, idx_str, idx_dic, slc_tup, slc_lst, slc_inp, prim_len_tup, prim_len_lst, prim_len_str, prim_int_int, prim_int_bl, prim_tuple_lst, prim_tuple_tup, prim_list_lst, prim_list_tup, prim_all, prim_any, prim_sum, prim_max2, prim_sorted, prim_lr, prim_abs, atI_0, atI_1, atI_2, cut_from1, items_tup, items_lst, items_rng1, items_enum_tup, items_zip_tup, mk_f, mk_t, LIM, cal_fn, cal_W, cal_meth, cal_init, guard_nil, guard_int, guard_tup, guard_lst])
  have nm : ev (cal P (run P (n + 14 + 1))) (.b2 .ne (.call (o 17) [(.var 1), (.cst (.str "model"))]) (.var 2)) [some (.ref r), some (bookD cs fs), some (waysD cs fs .mod), none, none, none] T = some (.bl false, T) := ne .mod rfl wm
  have eor : ev (cal P (run P (n + 14 + 1))) (.or (.b2 .ne (.call (o 17) [(.var 1), (.cst (.str "model"))]) (.var 2)) (.b2 .ne (.call (o 17) [(.var 1), (.cst (.str "stable"))]) (.var 2))) [some (.ref r), some (bookD cs fs), some (waysD cs fs .mod), none, none, none] T = some (.bl false, T) := by
    rw [ev, nm]
    exact ne .sta mt.sta ws
  have key : exs (cal P (run P (n + 15))) (l33 x m lb md (o 17) (o 20)).body ([.ref r].map some ++ List.replicate (l33 x m lb md (o 17) (o 20)).nloc none) (S.set r (stC nums c)) = some (.rt (.bl true), [some (.ref r), some (bookD cs fs), some (waysD cs fs .mod), none, none, none], T) := by
    show exs _ [_, _, _, _] [some (.ref r), none, none, none, none, none] _ = _
    rw [exs_nx (σ' := [some (.ref r), some (bookD cs fs), none, none, none, none]) (S' := T) (ex_asg hbook' rfl),
      exs_nx (σ' := [some (.ref r), some (bookD cs fs), some (waysD cs fs .mod), none, none, none]) (S' := T) (ex_asg e2 rfl),
      exs_nx (σ' := [some (.ref r), some (bookD cs fs), some (waysD cs fs .mod), none, none, none]) (S' := T) (by
        rw [ex_if_f (S1 := T) eor, exs_nil])]
    exact exs_rt (ex_ret el)
  rw [key, Option.bind_some, ← hT]
  have e : S.set r (stC nums c') = (S.set r (stC nums c)).set r (stC nums c') := by rw [List.set_set]
  rw [e]
  exact leaveF_set0 (fun b => stC_ok nums c' b) rfl
end Fw
end
section
set_option Elab.async false
set_option linter.all false
set_option autoImplicit false
set_option maxRecDepth 10000
set_option maxHeartbeats 4000000
/-! Pl33: the least and the greatest choice. -/
namespace Fw
open PySem
/-- the claims whose formula is true under a choice -/
def stepW (cs : List Str) (fs : List Fm) (W : List Str) : List Str := ((List.range cs.length).filter fun k => ((fs[k]?).getD .ff).val (say W)).map fun k => (cs[k]?).getD ⟨#[]⟩
def itW (cs : List Str) (fs : List Fm) (W : List Str) : Nat → List Str
  | 0 => W
  | k + 1 => stepW cs fs (itW cs fs W k)
theorem stepW_length (cs : List Str) (fs : List Fm) (W : List Str) : (stepW cs fs W).length ≤ cs.length := by
  unfold stepW
  rw [List.length_map]
  have := List.length_filter_le (fun k => ((fs[k]?).getD .ff).val (say W)) (List.range cs.length)
  rwa [List.length_range] at this
theorem set_get {σ : Ev} {j i : Nat} {d : D} {x : Option D} (h : getV σ i = some d) (hne : j ≠ i) : getV (σ.set j x) i = some d := by
  unfold getV at *
  rw [List.getElem?_set_ne hne]
  exact h
theorem set_get_self {σ : Ev} {j : Nat} {d : D} (hj : j < σ.length) : getV (σ.set j (some d)) j = some d := by
  unfold getV
  rw [List.getElem?_set_self hj]
  rfl
theorem ev_var {C : Cal} {σ : Ev} {S : Store} {i : Nat} {d : D} (h : getV σ i = some d) : ev C (.var i) σ S = some (d, S) := by rw [ev, h]; rfl
theorem step_ev {P : Prog} {t a : Nat} (ha : P.funs[a]? = some l24) (ht : P.funs[t]? = some (l25 t a)) (n : Nat) (cs : List Str) (fs : List Fm) (T : Store) (hk : cs.length ≤ 6) (hfs : fs.length = cs.length) (hf : ∀ f ∈ fs, f.dep ≤ 3 ∧ f.parts ≤ 1000) {σ : Ev} {v : Nat} {W : List Str} (h1 : getV σ 1 = some (bookD cs fs)) (hv : getV σ v = some (strsD W)) (hv7 : 7 ≠ v) (hl : 7 < σ.length) :
    ev (cal P (run P (n + 5))) (.prim .tuple [(.comp false (.idx (.idx (.var 1) (.cst (.int 0))) (.var 7)) (.name 7) .rng1 [(.prim .len [(.idx (.var 1) (.cst (.int 0)))])] [(.call t [(.idx (.idx (.var 1) (.cst (.int 1))) (.var 7)), (.var v)])])]) σ T = some (strsD (stepW cs fs W), T) := by
  have okm : okRng 0 ((cs.length : Nat) : Int) = true := okRng_of (by omega) (by omega) (by omega) (by omega)
  have ec : ev (cal P (run P (n + 5))) (.comp false (.idx (.idx (.var 1) (.cst (.int 0))) (.var 7)) (.name 7) .rng1 [(.prim .len [(.idx (.var 1) (.cst (.int 0)))])] [(.call t [(.idx (.idx (.var 1) (.cst (.int 1))) (.var 7)), (.var v)])]) σ T = some (.lst ((stepW cs fs W).map .str), T) := by
    rw [ev_comp (ds := [.int (cs.length : Nat)]) (S1 := T) (xs := (List.range cs.length).map fun i => D.int ((i : Nat) : Int)) (evs_1 (ev_lenCs (ev_bookCs (ev_var h1)))) (by rw [items_rng1, if_pos okm, rng0]),
      compL_filterc (fun i : Nat => D.int ((i : Nat) : Int)) (fun k => ((fs[k]?).getD .ff).val (say W)) (fun k => D.str ((cs[k]?).getD ⟨#[]⟩)) rfl]
    · simp only [Option.bind_some, mk_f, List.length_map]
      have l1 := List.length_filter_le (fun k => ((fs[k]?).getD .ff).val (say W)) (List.range cs.length)
      rw [List.length_range] at l1
      rw [if_pos (by unfold LIM; omega)]
      unfold stepW
      rw [List.map_map]
      rfl
    · intro k hkr
      rw [List.mem_range] at hkr
      have hkf : k < fs.length := by omega
      have hm := hf fs[k] (List.getElem_mem hkf)
      have hfk : (fs[k]?).getD .ff = fs[k] := by rw [List.getElem?_eq_getElem hkf]; rfl
      have g1 := set_get (j := 7) (x := some (.int (k : Nat))) h1 (by omega)
      have gv := set_get (j := 7) (x := some (.int (k : Nat))) hv hv7
      have g7 := set_get_self (d := .int (k : Nat)) hl
      have et := ltrue_spec ha ht W T (n + 3) ((fs[k]?).getD .ff) (by rw [hfk]; omega) (by rw [hfk]; exact hm.2)
      have e1 : ev (cal P (run P (n + 5))) (.call t [(.idx (.idx (.var 1) (.cst (.int 1))) (.var 7)), (.var v)]) (σ.set 7 (some (.int (k : Nat)))) T = some (.bl (((fs[k]?).getD .ff).val (say W)), T) :=
        ev_call (evs_2 (ev_fsAt (ev_bookFs (ev_var g1)) (ev_var g7) hkf) (ev_var gv)) et
      have e2 : ev (cal P (run P (n + 5))) (.idx (.idx (.var 1) (.cst (.int 0))) (.var 7)) (σ.set 7 (some (.int (k : Nat)))) T = some (.str ((cs[k]?).getD ⟨#[]⟩), T) :=
        ev_csAt (ev_bookCs (ev_var g1)) (ev_var g7) hkr
      simp only [bindT, Option.bind_some, evc_1 e1]
      cases ((fs[k]?).getD .ff).val (say W) with
      | true => simp only [if_true, e2, Option.bind_some]
      | false => rfl
  exact ev_prim (evs_1 ec) rfl
end Fw
end
section
set_option Elab.async false
set_option linter.all false
set_option autoImplicit false
set_option maxRecDepth 10000
set_option maxHeartbeats 4000000
/-! Pl34: the loops of the least and the greatest choice. -/
namespace Fw
open PySem
def stepS (t v : Nat) : List Stm := [.asg (.name v) (.prim .tuple [(.comp false (.idx (.idx (.var 1) (.cst (.int 0))) (.var 7)) (.name 7) .rng1 [(.prim .len [(.idx (.var 1) (.cst (.int 0)))])] [(.call t [(.idx (.idx (.var 1) (.cst (.int 1))) (.var 7)), (.var v)])])])]
/-- turns of a loop that writes one slot -/
theorem turn_loop {P : Prog} {t a : Nat} (ha : P.funs[a]? = some l24) (ht : P.funs[t]? = some (l25 t a)) (n : Nat) (cs : List Str) (fs : List Fm) (T : Store) (hk : cs.length ≤ 6) (hfs : fs.length = cs.length) (hf : ∀ f ∈ fs, f.dep ≤ 3 ∧ f.parts ≤ 1000) (v : Nat) (hv : v < 12) (hv3 : v ≠ 3) (hv7 : v ≠ 7) (hv1 : v ≠ 1) (g : Store → Bool) (hg : g T = true) :
    ∀ (xs : List Nat) (σ : Ev) (W : List Str), σ.length = 12 → getV σ 1 = some (bookD cs fs) → getV σ v = some (strsD W) →
      ∃ x3, forL g (.name 3) (fun σ s => exs (cal P (run P (n + 5))) (stepS t v) σ s) (xs.map fun i : Nat => D.int (i : Nat)) σ T = some (.nx, (if xs = [] then σ else (σ.set 3 x3).set v (some (strsD (itW cs fs W xs.length)))), T)
  | [], σ, W, _, _, _ => ⟨none, rfl⟩
  | x :: xs, σ, W, hl, h1, hW => by
    have g1 : getV (σ.set 3 (some (.int (x : Nat)))) 1 = some (bookD cs fs) := set_get h1 (by omega)
    have gv : getV (σ.set 3 (some (.int (x : Nat)))) v = some (strsD W) := set_get hW (by omega)
    have es := step_ev ha ht n cs fs T hk hfs hf (σ := σ.set 3 (some (.int (x : Nat)))) (v := v) (W := W) g1 gv (by omega) (by rw [List.length_set]; omega)
    have eb : exs (cal P (run P (n + 5))) (stepS t v) (σ.set 3 (some (.int (x : Nat)))) T = some (.nx, (σ.set 3 (some (.int (x : Nat)))).set v (some (strsD (stepW cs fs W))), T) := by
      unfold stepS
      rw [exs_nx (ex_asg es rfl), exs_nil]
    obtain ⟨x3, ih⟩ := turn_loop ha ht n cs fs T hk hfs hf v hv hv3 hv7 hv1 g hg xs ((σ.set 3 (some (.int (x : Nat)))).set v (some (strsD (stepW cs fs W)))) (stepW cs fs W) (by rw [List.length_set, List.length_set, hl]) (set_get g1 hv1) (set_get_self (by rw [List.length_set, hl]; exact hv))
    have itE : ∀ k, itW cs fs (stepW cs fs W) k = itW cs fs W (k + 1) := by
      intro k
      induction k with
      | zero => rfl
      | succ k ihk => rw [itW, ihk]; rfl
    by_cases he : xs = []
    · subst he
      refine ⟨some (.int (x : Nat)), ?_⟩
      rw [if_neg (by simp), List.map_cons]
      unfold forL
      simp only [bindT, Option.bind_some, eb, hg, if_true]
      rfl
    · refine ⟨x3, ?_⟩
      rw [if_neg (by simp), List.map_cons]
      unfold forL
      simp only [bindT, Option.bind_some, eb, hg, if_true]
      rw [ih, if_neg he, itE, List.length_cons]
      have c1 : ∀ (y : Option D), ((σ.set 3 (some (D.int (x : Nat)))).set v y).set 3 x3 = (σ.set 3 x3).set v y := fun y => by
        rw [List.set_comm _ _ hv3, List.set_set]
      rw [c1, List.set_set]
end Fw
end
section
set_option Elab.async false
set_option linter.all false
set_option autoImplicit false
set_option maxRecDepth 10000
set_option maxHeartbeats 4000000
/-! Pl35: the supports fit: helpers. -/
namespace Fw
open PySem
def allIn (A W : List Str) : Bool := (A.map fun s => decide (s ∈ W)).all id
theorem ev_allIn {C : Cal} {σ : Ev} {T : Store} {its : List E} {A W : List Str} {j : Nat} (hi : evs C its σ T = some ([strsD A], T)) (hj : getV σ j = some (strsD W)) (hj9 : 9 ≠ j) (hl : 9 < σ.length) (hA : A.length ≤ 1000) :
    ev C (.prim .all [(.comp false (.b2 .inn (.var 9) (.var j)) (.name 9) .seq its [])]) σ T = some (.bl (allIn A W), T) := by
  have ec : ev C (.comp false (.b2 .inn (.var 9) (.var j)) (.name 9) .seq its []) σ T = some (.lst (A.map fun s => .bl (decide (s ∈ W))), T) := by
    rw [ev_comp (ds := [strsD A]) (S1 := T) (xs := A.map .str) hi rfl, compL_mapc D.str (fun s => D.bl (decide (s ∈ W))) rfl]
    · simp only [Option.bind_some, mk_f, List.length_map]
      rw [if_pos (by unfold LIM; omega)]
    · intro s _
      have m := memD_strs s W
      have g9 := set_get_self (σ := σ) (d := .str s) hl
      have gj := set_get (j := 9) (x := some (.str s)) hj hj9
      have e : ev C (.b2 .inn (.var 9) (.var j)) (σ.set 9 (some (.str s))) T = some (.bl (decide (s ∈ W)), T) := by
        rw [ev, ev_var g9]
        simp only [Option.bind_some, ev_var gj]
        simp only [strsD, de_str, de_tup, bin_inn_tup, m, Option.map_some]
      simp only [bindT, Option.bind_some, evc, if_true, e]
  refine ev_prim (evs_1 ec) ?_
  show prim .all [.lst _] = _
  rw [prim_all, boolsOf_map]
  rfl
end Fw
end
section
set_option Elab.async false
set_option linter.all false
set_option autoImplicit false
set_option maxRecDepth 10000
set_option maxHeartbeats 4000000
/-! Pl36: the sure labels. -/
namespace Fw
open PySem
def sureB (A M : List Str) (s : Str) : Lb := if s ∈ A then .inn else if s ∈ M then .opn else .out
def sureL (cs A M : List Str) : List Lb := cs.map (sureB A M)
def sureE : E := .prim .tuple [(.comp false (.idx (.lst false [(.cst (.str "open")), (.cst (.str "in")), (.cst (.str "out"))]) (.b2 .add (.prim .int [(.b2 .inn (.var 9) (.var 2))]) (.b2 .mul (.cst (.int 2)) (.prim .int [(.b2 .notin (.var 9) (.var 4))])))) (.name 9) .seq [(.idx (.var 1) (.cst (.int 0)))] [])]
theorem ev_sure {C : Cal} {σ : Ev} {T : Store} {cs A M : List Str} {fs : List Fm} (h1 : getV σ 1 = some (bookD cs fs)) (h2 : getV σ 2 = some (strsD A)) (h4 : getV σ 4 = some (strsD M)) (hl : 9 < σ.length) (hk : cs.length ≤ 6) (hAM : ∀ s ∈ A, s ∈ M) :
    ev C sureE σ T = some (encL (sureL cs A M), T) := by
  have ec : ev C (.comp false (.idx (.lst false [(.cst (.str "open")), (.cst (.str "in")), (.cst (.str "out"))]) (.b2 .add (.prim .int [(.b2 .inn (.var 9) (.var 2))]) (.b2 .mul (.cst (.int 2)) (.prim .int [(.b2 .notin (.var 9) (.var 4))])))) (.name 9) .seq [(.idx (.var 1) (.cst (.int 0)))] []) σ T = some (.lst (cs.map fun s => .str (sureB A M s).str), T) := by
    rw [ev_comp (ds := [strsD cs]) (S1 := T) (xs := cs.map .str) (evs_1 (ev_bookCs (ev_var h1))) rfl, compL_mapc D.str (fun s => D.str (sureB A M s).str) rfl]
    · simp only [Option.bind_some, mk_f, List.length_map]
      rw [if_pos (by unfold LIM; omega)]
    · intro s _
      have g9 := set_get_self (σ := σ) (d := .str s) hl
      have g2 := set_get (j := 9) (x := some (.str s)) h2 (by omega)
      have g4 := set_get (j := 9) (x := some (.str s)) h4 (by omega)
      have mA := memD_strs s A
      have mM := memD_strs s M
      have eA : ev C (.prim .int [(.b2 .inn (.var 9) (.var 2))]) (σ.set 9 (some (.str s))) T = some (.int (if decide (s ∈ A) then 1 else 0), T) := by
        refine ev_prim (evs_1 (d := .bl (decide (s ∈ A))) ?_) (prim_int_bl _)
        rw [ev, ev_var g9]
        simp only [Option.bind_some, ev_var g2]
        simp only [strsD, de_str, de_tup, bin_inn_tup, mA, Option.map_some]
      have eM : ev C (.prim .int [(.b2 .notin (.var 9) (.var 4))]) (σ.set 9 (some (.str s))) T = some (.int (if (!decide (s ∈ M)) then 1 else 0), T) := by
        refine ev_prim (evs_1 (d := .bl (!decide (s ∈ M))) ?_) (prim_int_bl _)
        rw [ev, ev_var g9]
        simp only [Option.bind_some, ev_var g4]
        simp only [strsD, de_str, de_tup, bin_notin_tup, mM, Option.map_some]
      have e2 := ev_b2i (op := .mul) (i := 2) (z := .int (2 * (if (!decide (s ∈ M)) then 1 else 0))) (by rw [ev]) eM (bin_mulT 2 _ (by omega) (by omega)) (e := .cst (.int 2))
      have es := ev_b2i (op := .add) eA e2 (bin_add_int _ _)
      have ei : ev C (.idx (.lst false [(.cst (.str "open")), (.cst (.str "in")), (.cst (.str "out"))]) (.b2 .add (.prim .int [(.b2 .inn (.var 9) (.var 2))]) (.b2 .mul (.cst (.int 2)) (.prim .int [(.b2 .notin (.var 9) (.var 4))])))) (σ.set 9 (some (.str s))) T = some (.str (sureB A M s).str, T) := by
        have el : ev C (.lst false [(.cst (.str "open")), (.cst (.str "in")), (.cst (.str "out"))]) (σ.set 9 (some (.str s))) T = some (.lst [.str "open", .str "in", .str "out"], T) := by
          simp only [ev, evs, Option.bind_some, mk_f]; rfl
        rw [ev, el]
        simp only [Option.bind_some, es, de_lst, idx_lst]
        unfold sureB
        by_cases zA : s ∈ A
        · have zM := hAM s zA
          simp [zA, zM, atI_1, Lb.str]
        · by_cases zM : s ∈ M
          · simp [zA, zM, atI_0, Lb.str]
          · simp [zA, zM, atI_2, Lb.str]
      simp only [bindT, Option.bind_some, evc, if_true, ei]
  unfold sureE
  refine ev_prim (evs_1 ec) ?_
  unfold encL sureL
  rw [List.map_map]
  rfl
end Fw
end
section
set_option Elab.async false
set_option linter.all false
set_option autoImplicit false
set_option maxRecDepth 10000
set_option maxHeartbeats 1000000
/-! CM2: labels by claims; the loops come to an end. -/
namespace Fw
open PySem
/-- the formula of a claim -/
def fo (cs : List Str) (fs : List Fm) (s : Str) : Fm := (fs[cs.idxOf s]?).getD .ff
section
variable {cs : List Str} {fs : List Fm} {L M : List Lb} {s : Str}
theorem lb_getElem (hnd : cs.Nodup) {i : Nat} (hi : i < cs.length) (L : List Lb) : lb cs L cs[i] = (L[i]?).getD .opn := by
  unfold lb; rw [hnd.idxOf_getElem i hi]
theorem lb_ext (hnd : cs.Nodup) (hl : L.length = cs.length) (hm : M.length = cs.length) (h : ∀ s ∈ cs, lb cs L s = lb cs M s) : L = M := by
  apply List.ext_getElem (by rw [hl, hm])
  intro i h1 h2
  have hi : i < cs.length := by omega
  have := h cs[i] (List.getElem_mem hi)
  rw [lb_getElem hnd hi, lb_getElem hnd hi, List.getElem?_eq_getElem h1, List.getElem?_eq_getElem h2] at this
  exact this
theorem lb_map (g : Str → Lb) (hs : s ∈ cs) : lb cs (cs.map g) s = g s := by
  have hi := List.idxOf_lt_length_of_mem hs
  unfold lb
  rw [List.getElem?_map, List.getElem?_eq_getElem hi, List.getElem_idxOf]
  rfl
theorem lb_gams (hfs : fs.length = cs.length) (L : List Lb) (hs : s ∈ cs) : lb cs (gams cs fs L) s = gam cs cs.length L (fo cs fs s) := by
  have hi := List.idxOf_lt_length_of_mem hs
  unfold lb gams fo
  rw [List.getElem?_map, List.getElem?_eq_getElem (by omega : cs.idxOf s < fs.length)]
  rfl
theorem fo_mem (hfs : fs.length = cs.length) (hs : s ∈ cs) : fo cs fs s ∈ fs := by
  have hi := List.idxOf_lt_length_of_mem hs
  unfold fo
  rw [List.getElem?_eq_getElem (by omega : cs.idxOf s < fs.length)]
  exact List.getElem_mem _
theorem agB_iff (hnd : cs.Nodup) (hl : L.length = cs.length) (hm : M.length = cs.length) : agB L M = true ↔ ∀ s ∈ cs, lb cs L s = .opn ∨ lb cs L s = lb cs M s := by
  have h1 : agB L M = true ↔ ∀ i (h1 : i < L.length) (h2 : i < M.length), L[i] = .opn ∨ L[i] = M[i] := by
    unfold agB
    rw [List.all_eq_true]
    constructor
    · intro h i h1 h2
      have := h _ (List.mem_map.mpr ⟨(L[i], M[i]), by
        rw [← List.getElem_zip (h := by rw [List.length_zip]; omega)]; exact List.getElem_mem _, rfl⟩)
      simpa [leB] using this
    · intro h b hb
      obtain ⟨p, hp, rfl⟩ := List.mem_map.mp hb
      obtain ⟨i, hi, e⟩ := List.getElem_of_mem hp
      rw [List.length_zip] at hi
      rw [List.getElem_zip] at e
      subst e
      simpa [leB] using h i (by omega) (by omega)
  rw [h1]
  constructor
  · intro h s hs
    have hi := List.idxOf_lt_length_of_mem hs
    have := h (cs.idxOf s) (by omega) (by omega)
    unfold lb
    rwa [List.getElem?_eq_getElem (by omega : cs.idxOf s < L.length), List.getElem?_eq_getElem (by omega : cs.idxOf s < M.length)]
  · intro h i h1 h2
    have hi : i < cs.length := by omega
    have := h cs[i] (List.getElem_mem hi)
    rw [lb_getElem hnd hi, lb_getElem hnd hi, List.getElem?_eq_getElem h1, List.getElem?_eq_getElem h2] at this
    exact this
/-- a good book, as mathematics wants it -/
structure Bk (cs : List Str) (fs : List Fm) : Prop where
  nd : cs.Nodup
  len : fs.length = cs.length
  wf : ∀ f ∈ fs, f.wf cs = true
theorem Bk.fo (b : Bk cs fs) (hs : s ∈ cs) : (fo cs fs s).wf cs = true := b.wf _ (fo_mem b.len hs)
theorem Bk.inn (b : Bk cs fs) (hl : L.length = cs.length) (hs : s ∈ cs) : lb cs (gams cs fs L) s = .inn ↔ ∀ a, Comp cs L a → (Fw.fo cs fs s).val a = true := by
  rw [lb_gams b.len L hs]; exact gam_inn b.nd hl (b.fo hs)
theorem Bk.out (b : Bk cs fs) (hl : L.length = cs.length) (hs : s ∈ cs) : lb cs (gams cs fs L) s = .out ↔ ∀ a, Comp cs L a → (Fw.fo cs fs s).val a = false := by
  rw [lb_gams b.len L hs]; exact gam_out b.nd hl (b.fo hs)
theorem Bk.glen (b : Bk cs fs) (L : List Lb) : (gams cs fs L).length = cs.length := by rw [gams_length, b.len]
theorem comp_le (h : ∀ s ∈ cs, lb cs L s = .opn ∨ lb cs L s = lb cs M s) {a : Str → Bool} (hc : Comp cs M a) : Comp cs L a := by
  intro s hs
  have h1 := hc s hs
  rcases h s hs with e | e
  · rw [e]; exact ⟨fun q => Lb.noConfusion q, fun q => Lb.noConfusion q⟩
  · rw [e]; exact h1
/-- the next labels keep the order -/
theorem Bk.mono (b : Bk cs fs) (hl : L.length = cs.length) (hm : M.length = cs.length) (h : ∀ s ∈ cs, lb cs L s = .opn ∨ lb cs L s = lb cs M s) : ∀ s ∈ cs, lb cs (gams cs fs L) s = .opn ∨ lb cs (gams cs fs L) s = lb cs (gams cs fs M) s := by
  intro s hs
  cases e : lb cs (gams cs fs L) s with
  | opn => exact .inl rfl
  | inn => exact .inr ((b.inn hm hs).mpr fun a ha => (b.inn hl hs).mp e a (comp_le h ha)).symm
  | out => exact .inr ((b.out hm hs).mpr fun a ha => (b.out hl hs).mp e a (comp_le h ha)).symm
theorem lb_stStep (F : List Lb) (hf : F.length = cs.length) (hfs : fs.length = cs.length) (hs : s ∈ cs) : lb cs (stStep cs fs F) s = if lb cs F s = .out then .out else lb cs (gams cs fs F) s := by
  have hi := List.idxOf_lt_length_of_mem hs
  unfold lb stStep
  rw [List.getElem?_map, List.getElem?_zipIdx, List.getElem?_eq_getElem (by omega : cs.idxOf s < F.length)]
  simp only [Option.map_some, Option.getD_some, Nat.zero_add]
  rw [List.getD_eq_getElem?_getD]
theorem lb_stStart (hl : L.length = cs.length) (hs : s ∈ cs) : lb cs (stStart L) s = if lb cs L s = .out then .out else .opn := by
  have hi := List.idxOf_lt_length_of_mem hs
  unfold lb stStart
  rw [List.getElem?_map, List.getElem?_eq_getElem (by omega : cs.idxOf s < L.length)]
  rfl
end
/-! ### loops -/
theorem open_less : ∀ {L M : List Lb}, L.length = M.length → agB L M = true → M.count .opn ≤ L.count .opn ∧ (L ≠ M → M.count .opn < L.count .opn)
  | [], [], _, _ => by simp
  | [], _ :: _, h, _ => by simp at h
  | _ :: _, [], h, _ => by simp at h
  | x :: L, y :: M, h, ha => by
    have ha' : leB x y = true ∧ agB L M = true := by
      unfold agB at *
      simpa using ha
    have ih := open_less (L := L) (M := M) (by simpa using h) ha'.2
    have hx : x = .opn ∨ x = y := by simpa [leB] using ha'.1
    rw [List.count_cons, List.count_cons]
    by_cases e : x = y
    · subst e
      refine ⟨by omega, fun hne => ?_⟩
      have := ih.2 fun q => hne (by rw [q])
      omega
    · have hx' : x = .opn := by
        rcases hx with q | q
        · exact q
        · exact absurd q e
      subst hx'
      have : ¬ y = .opn := fun q => e q.symm
      simp [this]
      omega
theorem fix_ends (g : List Lb → List Lb) (I : List Lb → Prop) (hI : ∀ L, I L → I (g L)) (hl : ∀ L, I L → (g L).length = L.length) (ha : ∀ L, I L → agB L (g L) = true) : ∀ (k : Nat) (L : List Lb), I L → L.count .opn ≤ k → g (fixOf g k L) = fixOf g k L
  | 0, L, h, hk => by
    unfold fixOf
    have h2 := open_less (hl L h).symm (ha L h)
    by_cases e : L = g L
    · exact e.symm
    · have := h2.2 e; omega
  | k + 1, L, h, hk => by
    unfold fixOf
    split
    · assumption
    · rename_i hne
      have h2 := (open_less (hl L h).symm (ha L h)).2 fun q => hne q.symm
      exact fix_ends g I hI hl ha k (g L) (hI L h) (by omega)
/-- what holds at each turn holds at the end -/
theorem fixOf_inv (g : List Lb → List Lb) (I : List Lb → Prop) (hI : ∀ L, I L → I (g L)) : ∀ (k : Nat) (L : List Lb), I L → I (fixOf g k L)
  | 0, _, h => h
  | k + 1, L, h => by
    unfold fixOf
    split
    · exact h
    · exact fixOf_inv g I hI k _ (hI L h)
theorem lb_opens {cs : List Str} {s : Str} : lb cs (List.replicate cs.length .opn) s = .opn := by
  unfold lb
  rw [List.getElem?_replicate]
  split <;> rfl
theorem Bk.ends {cs : List Str} {fs : List Fm} (b : Bk cs fs) : Ends cs fs := by
  constructor
  · refine fix_ends (gams cs fs) (fun L => L.length = cs.length ∧ ∀ s ∈ cs, lb cs L s = .opn ∨ lb cs L s = lb cs (gams cs fs L) s) ?_ ?_ ?_ _ _ ?_ ?_
    · rintro L ⟨h1, h2⟩
      exact ⟨b.glen L, b.mono h1 (b.glen L) h2⟩
    · rintro L ⟨h1, h2⟩; rw [b.glen L, h1]
    · rintro L ⟨h1, h2⟩; exact (agB_iff b.nd h1 (b.glen L)).mpr h2
    · exact ⟨List.length_replicate, fun s _ => .inl lb_opens⟩
    · exact Nat.le_trans List.count_le_length (by rw [List.length_replicate]; exact Nat.le_refl _)
  · intro L hL
    have hl := (doneL_mem hL).1
    have sl : (stStart L).length = cs.length := by unfold stStart; rw [List.length_map, hl]
    refine fix_ends (stStep cs fs) (fun L => L.length = cs.length ∧ ∀ s ∈ cs, lb cs L s = .opn ∨ lb cs L s = lb cs (stStep cs fs L) s) ?_ ?_ ?_ _ _ ?_ ?_
    · rintro F ⟨h1, h2⟩
      have hl2 : (stStep cs fs F).length = cs.length := by rw [stStep_length, h1]
      refine ⟨hl2, fun s hs => ?_⟩
      rw [lb_stStep _ hl2 b.len hs]
      by_cases z : lb cs (stStep cs fs F) s = .out
      · rw [if_pos z]; exact .inr z
      · rw [if_neg z]
        have z2 : ¬ lb cs F s = .out := fun q => z (by rw [lb_stStep _ h1 b.len hs, if_pos q])
        rw [lb_stStep _ h1 b.len hs, if_neg z2]
        exact b.mono h1 hl2 h2 s hs
    · rintro F ⟨h1, h2⟩; exact stStep_length _ _ _
    · rintro F ⟨h1, h2⟩; exact (agB_iff b.nd h1 (by rw [stStep_length, h1])).mpr h2
    · refine ⟨sl, fun s hs => ?_⟩
      rw [lb_stStart hl hs]
      by_cases z : lb cs L s = .out
      · rw [if_pos z]; right
        rw [lb_stStep _ sl b.len hs, lb_stStart hl hs, if_pos z, if_pos rfl]
      · rw [if_neg z]; exact .inl rfl
    · exact Nat.le_trans List.count_le_length (by rw [sl]; exact Nat.le_refl _)
theorem BookOk.bk {cs : List Str} {fs : List Fm} (ok : BookOk cs fs) : Bk cs fs := by
  refine ⟨?_, ok.len, ok.wf⟩
  refine ok.srt.imp ?_
  intro a b h e
  subst e
  unfold sLt at h
  rw [PyProof.Rows.itemOrd.irrefl] at h
  cases h
end Fw
end
section
set_option Elab.async false
set_option linter.all false
set_option autoImplicit false
set_option maxRecDepth 10000
set_option maxHeartbeats 1000000
/-! CM3: models; books that lean forwards. -/
namespace Fw
open PySem
section
variable {cs : List Str} {fs : List Fm} {L M : List Lb} {s : Str} {W : List Str}
theorem filter_one {α : Type} {p : α → Bool} {a : α} : ∀ {xs : List α}, xs.Nodup → a ∈ xs → p a = true → (∀ b ∈ xs, p b = true → b = a) → xs.filter p = [a]
  | [], _, h, _, _ => by cases h
  | x :: xs, hn, hm, hp, hu => by
    rw [List.nodup_cons] at hn
    have none : ∀ ys : List α, a ∉ ys → (∀ b ∈ ys, p b = true → b = a) → ys.filter p = [] := by
      intro ys h1 h2
      rw [List.filter_eq_nil_iff]
      intro b hb q
      exact h1 (h2 b hb q ▸ hb)
    by_cases e : x = a
    · subst e
      rw [List.filter_cons, if_pos hp, none xs hn.1 fun b hb => hu b (List.mem_cons_of_mem _ hb)]
    · have hx : ¬ p x = true := fun q => e (hu x List.mem_cons_self q)
      rw [List.filter_cons, if_neg hx]
      refine filter_one hn.2 ?_ hp fun b hb => hu b (List.mem_cons_of_mem _ hb)
      rcases List.mem_cons.mp hm with q | q
      · exact absurd q.symm e
      · exact q
theorem allL_nodup (n : Nat) : (allL n).Nodup := (allL_sorted n).imp fun h => h.2
theorem goodL_nodup : (goodL cs fs).Nodup := (allL_nodup _).sublist List.filter_sublist
theorem doneL_nodup : (doneL cs fs).Nodup := goodL_nodup.sublist List.filter_sublist
theorem mem_good : L ∈ goodL cs fs ↔ L.length = cs.length ∧ agB L (gams cs fs L) = true := by
  unfold goodL; rw [List.mem_filter, allL_mem]
theorem agB_self (L : List Lb) : agB L L = true := by
  unfold agB
  rw [List.all_eq_true]
  intro b hb
  obtain ⟨p, hp, rfl⟩ := List.mem_map.mp hb
  obtain ⟨i, hi, e⟩ := List.getElem_of_mem hp
  rw [List.getElem_zip] at e
  subst e
  simp [leB]
theorem mem_done : L ∈ doneL cs fs ↔ L.length = cs.length ∧ gams cs fs L = L := by
  unfold doneL; rw [List.mem_filter, mem_good, decide_eq_true_eq]
  constructor
  · rintro ⟨⟨a, _⟩, b⟩; exact ⟨a, b⟩
  · rintro ⟨a, b⟩; exact ⟨⟨a, by rw [b]; exact agB_self L⟩, b⟩
theorem lb_lab (W : List Str) (hs : s ∈ cs) : lb cs (labW cs W) s = if s ∈ W then .inn else .out := lb_map _ hs
theorem lab_length (cs W : List Str) : (labW cs W).length = cs.length := by unfold labW; rw [List.length_map]
theorem lab_noopen (cs W : List Str) : ¬ Lb.opn ∈ labW cs W := by
  unfold labW
  intro h
  obtain ⟨s, _, e⟩ := List.mem_map.mp h
  split at e <;> cases e
theorem opn_mem (hnd : cs.Nodup) (hl : L.length = cs.length) : Lb.opn ∈ L ↔ ∃ s ∈ cs, lb cs L s = .opn := by
  constructor
  · intro h
    obtain ⟨i, hi, e⟩ := List.getElem_of_mem h
    refine ⟨cs[i], List.getElem_mem _, ?_⟩
    rw [lb_getElem hnd (by omega), List.getElem?_eq_getElem hi, e]; rfl
  · rintro ⟨s, hs, e⟩
    have hi := List.idxOf_lt_length_of_mem hs
    unfold lb at e
    rw [List.getElem?_eq_getElem (by omega : cs.idxOf s < L.length)] at e
    simp only [Option.getD_some] at e
    rw [← e]; exact List.getElem_mem _
/-- sure labels allow one choice -/
theorem comp_lab {a : Str → Bool} : Comp cs (labW cs W) a ↔ ∀ s ∈ cs, a s = say W s := by
  constructor
  · intro h s hs
    have := h s hs
    rw [lb_lab W hs] at this
    unfold say
    by_cases z : s ∈ W
    · rw [if_pos z] at this; simp only [z, decide_true]; exact this.1 rfl
    · rw [if_neg z] at this; simp only [z, decide_false]; exact this.2 rfl
  · intro h s hs
    rw [lb_lab W hs, h s hs]
    unfold say
    by_cases z : s ∈ W <;> simp [z]
theorem Bk.gam_lab (b : Bk cs fs) (hs : s ∈ cs) : lb cs (gams cs fs (labW cs W)) s = if (Fw.fo cs fs s).val (say W) = true then .inn else .out := by
  have e : ∀ a, Comp cs (labW cs W) a → (Fw.fo cs fs s).val a = (Fw.fo cs fs s).val (say W) := fun a ha => Fm.val_congr (comp_lab.mp ha) _ (b.fo hs)
  by_cases z : (Fw.fo cs fs s).val (say W) = true
  · rw [if_pos z, b.inn (lab_length cs W) hs]
    intro a ha; rw [e a ha, z]
  · rw [if_neg z, b.out (lab_length cs W) hs]
    intro a ha; rw [e a ha]; simpa using z
/-- a choice of which each formula says what the choice says -/
def Mod (cs : List Str) (fs : List Fm) (W : List Str) : Prop := ∀ s ∈ cs, (fo cs fs s).val (say W) = say W s
theorem Bk.isModel (b : Bk cs fs) : isModel cs fs W = true ↔ Mod cs fs W := by
  unfold Fw.isModel Mod
  rw [List.all_eq_true]
  constructor
  · intro h s hs
    have hi := List.idxOf_lt_length_of_mem hs
    have := h _ (List.mem_map.mpr ⟨cs.idxOf s, List.mem_range.mpr hi, rfl⟩)
    simp only [id, decide_eq_true_eq, List.getElem?_eq_getElem hi, List.getElem_idxOf, Option.getD_some] at this
    exact this
  · intro h x hx
    obtain ⟨k, hk, rfl⟩ := List.mem_map.mp hx
    rw [List.mem_range] at hk
    have := h cs[k] (List.getElem_mem hk)
    unfold Fw.fo at this
    rw [b.nd.idxOf_getElem k hk] at this
    simp only [id, decide_eq_true_eq, List.getElem?_eq_getElem hk, Option.getD_some]
    exact this
theorem Bk.fix_lab (b : Bk cs fs) : gams cs fs (labW cs W) = labW cs W ↔ Mod cs fs W := by
  constructor
  · intro h s hs
    have e := b.gam_lab (W := W) hs
    rw [h, lb_lab W hs] at e
    have hw : say W s = decide (s ∈ W) := rfl
    rw [hw]
    by_cases z : s ∈ W
    · rw [if_pos z] at e
      by_cases y : (Fw.fo cs fs s).val (say W) = true
      · simp [z, y]
      · rw [if_neg y] at e; cases e
    · rw [if_neg z] at e
      by_cases y : (Fw.fo cs fs s).val (say W) = true
      · rw [if_pos y] at e; cases e
      · simp [z, y]
  · intro h
    refine lb_ext b.nd (b.glen _) (lab_length _ _) fun s hs => ?_
    rw [b.gam_lab hs, lb_lab W hs, h s hs]
    unfold say
    by_cases z : s ∈ W <;> simp [z]
/-- the choice that labels without open ones tell -/
def inW (cs : List Str) (L : List Lb) : List Str := cs.filter fun s => decide (lb cs L s = .inn)
theorem lab_inW (hnd : cs.Nodup) (hl : L.length = cs.length) (h : ¬ Lb.opn ∈ L) : labW cs (inW cs L) = L := by
  refine lb_ext hnd (lab_length _ _) hl fun s hs => ?_
  rw [lb_lab _ hs]
  have hm : s ∈ inW cs L ↔ lb cs L s = .inn := by unfold inW; rw [List.mem_filter, decide_eq_true_eq]; simp [hs]
  cases e : lb cs L s with
  | inn => rw [if_pos (hm.mpr e)]
  | out => rw [if_neg fun q => by rw [hm.mp q] at e; cases e]
  | opn => exact absurd ((opn_mem hnd hl).mpr ⟨s, hs, e⟩) h
theorem inW_sub (cs : List Str) (L : List Lb) : (inW cs L).Sublist cs := List.filter_sublist
theorem Bk.mem_mod (b : Bk cs fs) : L ∈ wayL cs fs .mod ↔ ∃ W, W.Sublist cs ∧ Mod cs fs W ∧ L = labW cs W := by
  show L ∈ (doneL cs fs).filter _ ↔ _
  rw [List.mem_filter, mem_done]
  constructor
  · rintro ⟨⟨h1, h2⟩, h3⟩
    have h3 : ¬ Lb.opn ∈ L := by simpa using h3
    have e := lab_inW b.nd h1 h3
    exact ⟨inW cs L, inW_sub cs L, b.fix_lab.mp (by rw [e, h2]), e.symm⟩
  · rintro ⟨W, _, hm, rfl⟩
    exact ⟨⟨lab_length _ _, b.fix_lab.mpr hm⟩, by simp [lab_noopen]⟩
theorem labW_inj {V W : List Str} (hnd : cs.Nodup) (hv : V.Sublist cs) (hw : W.Sublist cs) (h : labW cs V = labW cs W) : V = W := by
  have m : ∀ s ∈ cs, (s ∈ V ↔ s ∈ W) := by
    intro s hs
    have := congrArg (fun L => lb cs L s) h
    simp only [lb_lab _ hs] at this
    by_cases a : s ∈ V <;> by_cases c : s ∈ W <;> simp [a, c] at this ⊢
  have e : ∀ V : List Str, V.Sublist cs → V = cs.filter fun s => decide (s ∈ V) := by
    intro V hV
    clear hv hw h m
    induction hV with
    | slnil => rfl
    | cons a h ih =>
      rename_i l1 l2
      rw [List.nodup_cons] at hnd
      rw [List.filter_cons, if_neg (by simpa using fun q => hnd.1 (h.subset q))]
      exact ih hnd.2
    | cons_cons a h ih =>
      rename_i l1 l2
      rw [List.nodup_cons] at hnd
      rw [List.filter_cons, if_pos (by simp)]
      congr 1
      refine (ih hnd.2).trans ?_
      apply List.filter_congr
      intro x hx
      have : ¬ x = a := fun q => hnd.1 (q ▸ hx)
      simp [this]
  rw [e V hv, e W hw]
  apply List.filter_congr
  intro s hs
  simp [m s hs]
theorem subsL_nodup (hnd : cs.Nodup) : (subsL cs).Nodup := by
  revert hnd
  refine snoc_ind (Q := fun cs => cs.Nodup → (subsL cs).Nodup) (by simp [subsL]) ?_ cs
  intro l a ih hn
  rw [List.nodup_append] at hn
  rw [subsL_snoc, subsStep, List.nodup_append]
  have hl := ih hn.1
  have ha : a ∉ l := fun h => hn.2.2 a h a (by simp) rfl
  refine ⟨hl, ?_, ?_⟩
  · refine List.Pairwise.map _ ?_ hl
    intro x y hxy e
    exact hxy (List.append_cancel_right e)
  · intro x hx y hy e
    subst e
    obtain ⟨r, _, rfl⟩ := List.mem_map.mp hy
    exact ha (((subsL_mem _ l rfl _).mp hx).subset (by simp))
theorem Bk.models_perm (b : Bk cs fs) : (((subsL cs).filter (Fw.isModel cs fs)).map (labW cs)).Perm (wayL cs fs .mod) := by
  have n1 : (((subsL cs).filter (Fw.isModel cs fs)).map (labW cs)).Nodup := by
    have h : ((subsL cs).filter (Fw.isModel cs fs)).Nodup := (subsL_nodup b.nd).sublist List.filter_sublist
    have hs : ∀ W ∈ (subsL cs).filter (Fw.isModel cs fs), W.Sublist cs := fun W hW => (subsL_mem _ cs rfl W).mp (List.mem_filter.mp hW).1
    generalize (subsL cs).filter (Fw.isModel cs fs) = rows at h hs
    induction rows with
    | nil => simp
    | cons r rows ih =>
      rw [List.nodup_cons] at h
      rw [List.map_cons, List.nodup_cons]
      refine ⟨fun hm => ?_, ih h.2 fun W hW => hs W (List.mem_cons_of_mem _ hW)⟩
      obtain ⟨q, hq, e⟩ := List.mem_map.mp hm
      exact h.1 (labW_inj b.nd (hs q (List.mem_cons_of_mem _ hq)) (hs r List.mem_cons_self) e ▸ hq)
  have n2 : (wayL cs fs .mod).Nodup := doneL_nodup.sublist List.filter_sublist
  rw [List.perm_ext_iff_of_nodup n1 n2]
  intro L
  rw [b.mem_mod]
  constructor
  · intro h
    obtain ⟨W, hW, rfl⟩ := List.mem_map.mp h
    rw [List.mem_filter] at hW
    exact ⟨W, (subsL_mem _ cs rfl W).mp hW.1, b.isModel.mp hW.2, rfl⟩
  · rintro ⟨W, h1, h2, rfl⟩
    exact List.mem_map.mpr ⟨W, List.mem_filter.mpr ⟨(subsL_mem _ cs rfl W).mpr h1, b.isModel.mpr h2⟩, rfl⟩
/-! ### forwards -/
def Fwd (cs : List Str) (fs : List Fm) : Prop := ∀ (k : Nat) (f : Fm), fs[k]? = some f → f.wf (cs.take k) = true
theorem fwd_ind {Q : Str → Prop} (h : ∀ k (hk : k < cs.length), (∀ j (hj : j < cs.length), j < k → Q cs[j]) → Q cs[k]) : ∀ s ∈ cs, Q s := by
  have : ∀ n k (hk : k < cs.length), k < n → Q cs[k] := by
    intro n
    induction n with
    | zero => intro k hk h0; omega
    | succ n ih => intro k hk _; exact h k hk fun j hj hjk => ih j hj (by omega)
  intro s hs
  obtain ⟨k, hk, rfl⟩ := List.getElem_of_mem hs
  exact this _ k hk (Nat.lt_succ_self _)
theorem mem_take {k : Nat} (hs : s ∈ cs.take k) : ∃ j, ∃ h : j < cs.length, j < k ∧ s = cs[j] := by
  obtain ⟨j, hj, e⟩ := List.getElem_of_mem hs
  rw [List.length_take] at hj
  rw [List.getElem_take] at e
  exact ⟨j, by omega, by omega, e.symm⟩
theorem fo_at (hnd : cs.Nodup) {k : Nat} (hk : k < cs.length) : fo cs fs cs[k] = (fs[k]?).getD .ff := by
  unfold fo; rw [hnd.idxOf_getElem k hk]
theorem dueW_mem {k : Nat} (h : s ∈ dueW cs fs k) (hk : k ≤ cs.length) : s ∈ cs.take k := by
  induction k with
  | zero => cases h
  | succ k ih =>
    rw [dueW_succ, dueStep] at h
    have sub : ∀ s, s ∈ cs.take k → s ∈ cs.take (k + 1) := fun s h => by
      obtain ⟨j, hj, hjk, e⟩ := mem_take h
      subst e
      exact List.mem_take_iff_getElem.mpr ⟨j, by omega, rfl⟩
    split at h
    · rcases List.mem_append.mp h with h | h
      · exact sub s (ih h (by omega))
      · rw [List.mem_singleton, List.getElem?_eq_getElem (by omega), Option.getD_some] at h
        subst h
        exact List.mem_take_iff_getElem.mpr ⟨k, by omega, rfl⟩
    · exact sub s (ih h (by omega))
theorem dueW_keep (hnd : cs.Nodup) {j k : Nat} (hj : j < k) (hk : k ≤ cs.length) : (cs[j]'(by omega) ∈ dueW cs fs k ↔ cs[j]'(by omega) ∈ dueW cs fs (j + 1)) := by
  induction k with
  | zero => omega
  | succ k ih =>
    by_cases e : j = k
    · subst e; exact Iff.rfl
    · rw [dueW_succ, dueStep]
      have hne : ¬ cs[j]'(by omega) = cs[k] := fun q => e (by
        have := hnd.idxOf_getElem j (by omega)
        rw [q, hnd.idxOf_getElem k (by omega)] at this; omega)
      rw [← ih (by omega) (by omega)]
      split
      · rw [List.mem_append, List.getElem?_eq_getElem (by omega), Option.getD_some]
        simp [hne]
      · exact Iff.rfl
theorem dueW_mod (b : Bk cs fs) (hf : Fwd cs fs) : Mod cs fs (dueW cs fs cs.length) := by
  refine fwd_ind fun k hk _ => ?_
  have hkf : k < fs.length := by rw [b.len]; exact hk
  have w := hf k fs[k] (List.getElem?_eq_getElem hkf)
  rw [fo_at b.nd hk, List.getElem?_eq_getElem hkf, Option.getD_some]
  have e1 : fs[k].val (say (dueW cs fs cs.length)) = fs[k].val (say (dueW cs fs k)) := by
    refine Fm.val_congr (fun s hs => ?_) _ w
    obtain ⟨j, hj, hjk, rfl⟩ := mem_take hs
    unfold say
    rw [decide_eq_decide, dueW_keep b.nd hj (Nat.le_refl _), dueW_keep b.nd hjk (by omega)]
  rw [e1]
  unfold say
  rw [show (decide (cs[k] ∈ dueW cs fs cs.length)) = decide (cs[k] ∈ dueW cs fs (k + 1)) from decide_eq_decide.mpr (dueW_keep b.nd hk (Nat.le_refl _))]
  rw [dueW_succ, dueStep, List.getElem?_eq_getElem hkf, Option.getD_some]
  have hn : ¬ cs[k] ∈ dueW cs fs k := fun h => by
    obtain ⟨j, hj, hjk, e⟩ := mem_take (dueW_mem h (by omega))
    have := b.nd.idxOf_getElem j (by omega)
    rw [← e, b.nd.idxOf_getElem k (by omega)] at this; omega
  show fs[k].val (say (dueW cs fs k)) = _
  by_cases z : fs[k].val (say (dueW cs fs k)) = true
  · rw [if_pos z, z, List.getElem?_eq_getElem hk, Option.getD_some]; simp
  · rw [if_neg z]; simp [hn, z]
/-- the turns of `is_stable` -/
theorem st_inv (b : Bk cs fs) (hl : L.length = cs.length) (hf : gams cs fs L = L) : (fixOf (stStep cs fs) cs.length (stStart L)).length = cs.length ∧ (∀ s ∈ cs, lb cs L s = .out → lb cs (fixOf (stStep cs fs) cs.length (stStart L)) s = .out) ∧ ∀ s ∈ cs, lb cs (fixOf (stStep cs fs) cs.length (stStart L)) s = .opn ∨ lb cs (fixOf (stStep cs fs) cs.length (stStart L)) s = lb cs L s := by
  refine fixOf_inv (stStep cs fs) (fun F => F.length = cs.length ∧ (∀ s ∈ cs, lb cs L s = .out → lb cs F s = .out) ∧ ∀ s ∈ cs, lb cs F s = .opn ∨ lb cs F s = lb cs L s) ?_ _ _ ⟨?_, ?_, ?_⟩
  · rintro F ⟨h1, h2, h3⟩
    refine ⟨by rw [stStep_length, h1], fun s hs q => ?_, fun s hs => ?_⟩
    · rw [lb_stStep F h1 b.len hs, if_pos (h2 s hs q)]
    · rw [lb_stStep F h1 b.len hs]
      by_cases z : lb cs F s = .out
      · rw [if_pos z]
        rcases h3 s hs with q | q
        · rw [q] at z; cases z
        · exact .inr (z.symm.trans q)
      · rw [if_neg z]
        have := b.mono h1 hl h3 s hs
        rwa [hf] at this
  · unfold stStart; rw [List.length_map, hl]
  · intro s hs q; rw [lb_stStart hl hs, if_pos q]
  · intro s hs
    rw [lb_stStart hl hs]
    by_cases z : lb cs L s = .out
    · rw [if_pos z]; exact .inr z.symm
    · rw [if_neg z]; exact .inl rfl
theorem fwd_math (b : Bk cs fs) (hf : Fwd cs fs) : FwdMath cs fs := by
  have hm := dueW_mod b hf
  suffices H : ∀ W, Mod cs fs W → Ends cs fs ∧ (∀ w ∈ fiveW, wayL cs fs w = [labW cs W]) ∧ gams cs fs (labW cs W) = labW cs W by
    have h := H _ hm
    exact ⟨h.1, h.2.1, h.2.2⟩
  clear hm
  intro W hm
  have fixW := b.fix_lab.mpr hm
  -- the label of a claim comes of those ahead
  have step : ∀ (L : List Lb) k (hk : k < cs.length), L.length = cs.length → (∀ j (hj : j < cs.length), j < k → lb cs L cs[j] = lb cs (labW cs W) cs[j]) → lb cs (gams cs fs L) cs[k] = lb cs (labW cs W) cs[k] := by
    intro L k hk hl h
    have hs : cs[k] ∈ cs := List.getElem_mem hk
    have hkf : k < fs.length := by rw [b.len]; exact hk
    have w := hf k fs[k] (List.getElem?_eq_getElem hkf)
    have e : ∀ a, Comp cs L a → (fo cs fs cs[k]).val a = (fo cs fs cs[k]).val (say W) := by
      intro a ha
      rw [fo_at b.nd hk, List.getElem?_eq_getElem hkf, Option.getD_some]
      refine Fm.val_congr (fun s hs => ?_) _ w
      obtain ⟨j, hj, hjk, rfl⟩ := mem_take hs
      have h1 := ha cs[j] (List.getElem_mem hj)
      rw [h j hj hjk, lb_lab W (List.getElem_mem hj)] at h1
      unfold say
      by_cases z : cs[j] ∈ W
      · rw [if_pos z] at h1; simp only [z, decide_true]; exact h1.1 rfl
      · rw [if_neg z] at h1; simp only [z, decide_false]; exact h1.2 rfl
    have ew : lb cs (gams cs fs (labW cs W)) cs[k] = lb cs (labW cs W) cs[k] := by rw [fixW]
    rw [← ew, b.gam_lab hs]
    by_cases z : (fo cs fs cs[k]).val (say W) = true
    · rw [if_pos z, b.inn hl hs]; intro a ha; rw [e a ha, z]
    · rw [if_neg z, b.out hl hs]; intro a ha; rw [e a ha]; simpa using z
  have uniq : ∀ L : List Lb, L.length = cs.length → gams cs fs L = L → L = labW cs W := by
    intro L hl h
    refine lb_ext b.nd hl (lab_length _ _) (fwd_ind fun k hk ih => ?_)
    have := step L k hk hl ih
    rwa [h] at this
  have due_all : labW cs W ∈ allL cs.length := allL_mem.mpr (lab_length _ _)
  have com : doneL cs fs = [labW cs W] := by
    have : doneL cs fs = (allL cs.length).filter fun L => decide (gams cs fs L = L) := by
      unfold doneL goodL
      rw [List.filter_filter]
      apply List.filter_congr
      intro L hL
      by_cases z : gams cs fs L = L
      · simp [z, agB_self]
      · simp [z]
    rw [this]
    refine filter_one (allL_nodup _) due_all (by simp [fixW]) fun L hL q => ?_
    exact uniq L (allL_mem.mp hL) (by simpa using q)
  have gl : (groL cs fs).length = cs.length := fixOf_inv (gams cs fs) (fun L => L.length = cs.length) (fun L _ => b.glen L) _ _ List.length_replicate
  have below : ∀ L ∈ goodL cs fs, ∀ s ∈ cs, lb cs L s = .opn ∨ lb cs L s = lb cs (labW cs W) s := by
    intro L hL
    obtain ⟨hl, ha⟩ := mem_good.mp hL
    have ha := (agB_iff b.nd hl (b.glen L)).mp ha
    refine fwd_ind fun k hk ih => ?_
    rcases ha cs[k] (List.getElem_mem hk) with h | h
    · exact .inl h
    · let M : List Lb := cs.map fun s => if s ∈ cs.take k then lb cs (labW cs W) s else lb cs L s
      have hM : M.length = cs.length := by simp [M]
      have lM : ∀ s ∈ cs, lb cs M s = if s ∈ cs.take k then lb cs (labW cs W) s else lb cs L s := fun s hs => lb_map _ hs
      have e1 := step M k hk hM fun j hj hjk => by
        rw [lM _ (List.getElem_mem hj), if_pos (List.mem_take_iff_getElem.mpr ⟨j, by omega, rfl⟩)]
      have le : ∀ s ∈ cs, lb cs L s = .opn ∨ lb cs L s = lb cs M s := by
        intro s hs
        rw [lM s hs]
        by_cases z : s ∈ cs.take k
        · rw [if_pos z]
          obtain ⟨j, hj, hjk, rfl⟩ := mem_take z
          exact ih j hj hjk
        · rw [if_neg z]; exact .inr rfl
      rcases b.mono hl hM le cs[k] (List.getElem_mem hk) with q | q
      · exact .inl (by rw [h, q])
      · exact .inr (by rw [h, q, e1])
  have en := b.ends
  have gro : groL cs fs = labW cs W := uniq _ gl en.gro
  have dueG : labW cs W ∈ goodL cs fs := mem_good.mpr ⟨lab_length _ _, by rw [fixW]; exact agB_self _⟩
  have dueD : labW cs W ∈ doneL cs fs := mem_done.mpr ⟨lab_length _ _, fixW⟩
  have top : ∀ M : List Lb, M.length = cs.length → agB (labW cs W) M = true → labW cs W = M := by
    intro M hM h
    refine lb_ext b.nd (lab_length _ _) hM fun s hs => ?_
    rcases (agB_iff b.nd (lab_length _ _) hM).mp h s hs with q | q
    · exact absurd ((opn_mem b.nd (lab_length _ _)).mpr ⟨s, hs, q⟩) (lab_noopen cs W)
    · exact q
  have pre : wayL cs fs .pre = [labW cs W] := by
    refine filter_one goodL_nodup dueG ?_ fun L hL q => ?_
    · rw [Bool.not_eq_true', ← Bool.not_eq_true, List.any_eq_true]
      rintro ⟨x, hx, q⟩
      obtain ⟨M, hM, rfl⟩ := List.mem_map.mp hx
      simp only [id, Bool.and_eq_true, decide_eq_true_eq] at q
      exact q.1 (top M (mem_good.mp hM).1 q.2)
    · by_cases e : L = labW cs W
      · exact e
      · exfalso
        rw [Bool.not_eq_true', ← Bool.not_eq_true] at q
        refine q (List.any_eq_true.mpr ⟨_, List.mem_map.mpr ⟨labW cs W, dueG, rfl⟩, ?_⟩)
        simp only [id, Bool.and_eq_true, decide_eq_true_eq]
        exact ⟨e, (agB_iff b.nd (mem_good.mp hL).1 (lab_length _ _)).mpr (below L hL)⟩
  have no := lab_noopen cs W
  have mod : wayL cs fs .mod = [labW cs W] := by
    show (doneL cs fs).filter _ = _
    rw [com, List.filter_cons, if_pos (by simp [no])]; rfl
  have stab : staB cs fs (labW cs W) = true := by
    unfold staB
    have hst := st_inv b (lab_length cs W) fixW
    have hfx := en.sta _ dueD
    generalize fixOf (stStep cs fs) cs.length (stStart (labW cs W)) = F at hst hfx
    obtain ⟨fl, fo1, fo2⟩ := hst
    have : F = labW cs W := by
      refine lb_ext b.nd fl (lab_length _ _) (fwd_ind fun k hk ih => ?_)
      have hs : cs[k] ∈ cs := List.getElem_mem hk
      rcases fo2 _ hs with q | q
      · have e := congrArg (fun L => lb cs L cs[k]) hfx
        simp only [lb_stStep F fl b.len hs] at e
        rw [if_neg (by rw [q]; intro z; cases z)] at e
        rw [← e]
        exact step F k hk fl ih
      · exact q
    simp [no, fixW, this]
  have sta : wayL cs fs .sta = [labW cs W] := by
    show (doneL cs fs).filter _ = _
    rw [com, List.filter_cons, if_pos stab]; rfl
  refine ⟨en, fun w hw => ?_, fixW⟩
  simp only [fiveW, List.mem_cons, List.not_mem_nil, or_false] at hw
  rcases hw with rfl | rfl | rfl | rfl | rfl
  · exact com
  · show [groL cs fs] = _; rw [gro]
  · exact pre
  · exact mod
  · exact sta
end
end Fw
end
section
set_option Elab.async false
set_option linter.all false
set_option autoImplicit false
set_option maxRecDepth 10000
set_option maxHeartbeats 1000000
/-! CM4: books without `not`, and with claims under `not` alone. -/
namespace Fw
open PySem
mutual
theorem Fm.pos_mono {cs : List Str} {a b : Str → Bool} (h : ∀ s ∈ cs, a s = true → b s = true) : ∀ f : Fm, f.pos = true → f.wf cs = true → f.val a = true → f.val b = true
  | .tt, _, _, _ => rfl
  | .ff, _, _, h1 => by cases h1
  | .cl c, _, hw, h1 => by simp only [Fm.wf, decide_eq_true_eq] at hw; exact h c hw h1
  | .nt f, hp, _, _ => by cases hp
  | .nn k fs, hp, hw, h1 => by
    simp only [Fm.wf, Bool.and_eq_true] at hw
    simp only [Fm.pos] at hp
    have ih := Fm.poss_mono h fs hp hw.2
    simp only [Fm.val] at h1 ⊢
    cases k with
    | true => simp only [if_true] at h1 ⊢; exact ih.1 h1
    | false => simp only [Bool.false_eq_true, if_false] at h1 ⊢; exact ih.2 h1
theorem Fm.poss_mono {cs : List Str} {a b : Str → Bool} (h : ∀ s ∈ cs, a s = true → b s = true) : ∀ fs : List Fm, Fm.poss fs = true → Fm.wfs cs fs = true → ((Fm.vals a fs).all id = true → (Fm.vals b fs).all id = true) ∧ ((Fm.vals a fs).any id = true → (Fm.vals b fs).any id = true)
  | [], _, _ => ⟨id, id⟩
  | f :: fs, hp, hw => by
    simp only [Fm.wfs, Fm.poss, Bool.and_eq_true] at hw hp
    have i1 := Fm.pos_mono h f hp.1 hw.1
    have i2 := Fm.poss_mono h fs hp.2 hw.2
    simp only [Fm.vals, List.all_cons, List.any_cons, Bool.and_eq_true, Bool.or_eq_true, id]
    exact ⟨fun q => ⟨i1 q.1, i2.1 q.2⟩, fun q => q.imp i1 i2.2⟩
end
mutual
theorem Fm.neg_anti {cs : List Str} {a b : Str → Bool} (h : ∀ s ∈ cs, a s = true → b s = true) : ∀ f : Fm, f.neg = true → f.wf cs = true → f.val b = true → f.val a = true
  | .tt, _, _, _ => rfl
  | .ff, _, _, h1 => by cases h1
  | .cl c, hp, _, _ => by cases hp
  | .nt (.cl c), hp, hw, h1 => by
    simp only [Fm.wf, decide_eq_true_eq] at hw
    simp only [Fm.val, Bool.not_eq_true'] at h1 ⊢
    cases e : a c with
    | false => rfl
    | true => rw [h c hw e] at h1; cases h1
  | .nt .tt, hp, _, _ => by cases hp
  | .nt .ff, hp, _, _ => by cases hp
  | .nt (.nt _), hp, _, _ => by cases hp
  | .nt (.nn _ _), hp, _, _ => by cases hp
  | .nn k fs, hp, hw, h1 => by
    simp only [Fm.wf, Bool.and_eq_true] at hw
    simp only [Fm.neg] at hp
    have ih := Fm.negs_anti h fs hp hw.2
    simp only [Fm.val] at h1 ⊢
    cases k with
    | true => simp only [if_true] at h1 ⊢; exact ih.1 h1
    | false => simp only [Bool.false_eq_true, if_false] at h1 ⊢; exact ih.2 h1
theorem Fm.negs_anti {cs : List Str} {a b : Str → Bool} (h : ∀ s ∈ cs, a s = true → b s = true) : ∀ fs : List Fm, Fm.negs fs = true → Fm.wfs cs fs = true → ((Fm.vals b fs).all id = true → (Fm.vals a fs).all id = true) ∧ ((Fm.vals b fs).any id = true → (Fm.vals a fs).any id = true)
  | [], _, _ => ⟨id, id⟩
  | f :: fs, hp, hw => by
    simp only [Fm.wfs, Fm.negs, Bool.and_eq_true] at hw hp
    have i1 := Fm.neg_anti h f hp.1 hw.1
    have i2 := Fm.negs_anti h fs hp.2 hw.2
    simp only [Fm.vals, List.all_cons, List.any_cons, Bool.and_eq_true, Bool.or_eq_true, id]
    exact ⟨fun q => ⟨i1 q.1, i2.1 q.2⟩, fun q => q.imp i1 i2.2⟩
end
section
variable {cs : List Str} {fs : List Fm} {L M : List Lb} {s : Str} {W : List Str}
theorem asg_or {c i : Nat} {s : Str} (h : asg cs c s = true) : asg cs (c ||| 2 ^ i) s = true := by
  unfold asg at *; rw [Nat.testBit_or, h]; rfl
theorem pairs_pos {f : Fm} {i : Nat} (hp : f.pos = true) (hw : f.wf cs = true) : ¬ (true, false) ∈ pairs cs f i := by
  unfold pairs
  intro h
  obtain ⟨c, _, e⟩ := List.mem_map.mp h
  rw [Prod.mk.injEq] at e
  have := Fm.pos_mono (cs := cs) (a := asg cs c) (b := asg cs (c ||| 2 ^ i)) (fun s _ => asg_or) f hp hw e.1
  rw [e.2] at this; cases this
theorem pairs_neg {f : Fm} {i : Nat} (hp : f.neg = true) (hw : f.wf cs = true) : ¬ (false, true) ∈ pairs cs f i := by
  unfold pairs
  intro h
  obtain ⟨c, _, e⟩ := List.mem_map.mp h
  rw [Prod.mk.injEq] at e
  have := Fm.neg_anti (cs := cs) (a := asg cs c) (b := asg cs (c ||| 2 ^ i)) (fun s _ => asg_or) f hp hw e.2
  rw [e.1] at this; cases this
theorem linkL_mem {p : Str × Str × Str} (h : p ∈ linkL cs fs) : ∃ a ∈ cs, ∃ b ∈ cs, p = (a, b, linkS cs fs a b) ∧ linkS cs fs a b ≠ "none" := by
  unfold linkL at h
  rw [List.mem_filter] at h
  obtain ⟨h1, h2⟩ := h
  unfold linkAll at h1
  obtain ⟨a, ha, h1⟩ := List.mem_flatMap.mp h1
  obtain ⟨b, hb, rfl⟩ := List.mem_map.mp h1
  exact ⟨a, ha, b, hb, rfl, by simpa using h2⟩
theorem att_lk (b : Bk cs fs) (hn : ∀ f ∈ fs, f.neg = true) : ∀ p ∈ linkL cs fs, p.2.2 = "attacks" := by
  intro p hp
  obtain ⟨x, hx, y, hy, rfl, hne⟩ := linkL_mem hp
  have hf := fo_mem (fs := fs) b.len hy
  have h := pairs_neg (i := cs.idxOf x) (hn _ hf) (b.wf _ hf)
  show linkS cs fs x y = "attacks"
  have hne' : kindS (pairs cs (fo cs fs y) (cs.idxOf x)) ≠ "none" := hne
  show kindS (pairs cs (fo cs fs y) (cs.idxOf x)) = "attacks"
  unfold kindS at *
  rw [if_neg (fun q => h q.2)] at *
  by_cases z : (true, false) ∈ pairs cs (fo cs fs y) (cs.idxOf x)
  · rw [if_pos z]
  · rw [if_neg z, if_neg h] at hne'; exact absurd rfl hne'
theorem sup_lk (b : Bk cs fs) (hn : ∀ f ∈ fs, f.pos = true) : ∀ p ∈ linkL cs fs, p.2.2 = "supports" := by
  intro p hp
  obtain ⟨x, hx, y, hy, rfl, hne⟩ := linkL_mem hp
  have hf := fo_mem (fs := fs) b.len hy
  have h := pairs_pos (i := cs.idxOf x) (hn _ hf) (b.wf _ hf)
  have hne' : kindS (pairs cs (fo cs fs y) (cs.idxOf x)) ≠ "none" := hne
  show kindS (pairs cs (fo cs fs y) (cs.idxOf x)) = "supports"
  unfold kindS at *
  rw [if_neg (fun q => h q.1), if_neg h] at *
  by_cases z : (false, true) ∈ pairs cs (fo cs fs y) (cs.idxOf x)
  · rw [if_pos z]
  · rw [if_neg z] at hne'; exact absurd rfl hne'
theorem att_math (b : Bk cs fs) (hn : ∀ f ∈ fs, f.neg = true) : AttMath cs fs := by
  have en := b.ends
  refine ⟨en, ?_, b.models_perm, att_lk b hn⟩
  show (doneL cs fs).filter _ = (doneL cs fs).filter _
  apply List.filter_congr
  intro L hL
  obtain ⟨hl, hf⟩ := mem_done.mp hL
  unfold staB
  by_cases z : Lb.opn ∈ L
  · simp [z]
  · have hst := st_inv b hl hf
    have hfx := en.sta _ hL
    generalize fixOf (stStep cs fs) cs.length (stStart L) = F at hst hfx
    obtain ⟨fl, fo1, fo2⟩ := hst
    have : F = L := by
      refine lb_ext b.nd fl hl fun s hs => ?_
      rcases fo2 s hs with q | q
      · exfalso
        have e : lb cs (stStep cs fs F) s = lb cs F s := by rw [hfx]
        rw [lb_stStep F fl b.len hs, if_neg (by rw [q]; intro w; cases w), q] at e
        have hin : lb cs L s = .inn := by
          cases w : lb cs L s with
          | inn => rfl
          | opn => exact absurd ((opn_mem b.nd hl).mpr ⟨s, hs, w⟩) z
          | out => rw [fo1 s hs w] at q; cases q
        have hv := (b.inn hl hs).mp (by rw [hf]; exact hin) (fun s => decide (lb cs L s = .inn)) (comp_inh cs L)
        have : lb cs (gams cs fs F) s = .inn := by
          rw [b.inn fl hs]
          intro a ha
          refine Fm.neg_anti (cs := cs) ?_ _ (hn _ (fo_mem b.len hs)) (b.fo hs) hv
          intro t ht hat
          cases w : lb cs L t with
          | inn => simp
          | opn => exact absurd ((opn_mem b.nd hl).mpr ⟨t, ht, w⟩) z
          | out => rw [(ha t ht).2 (fo1 t ht w)] at hat; cases hat
        rw [this] at e; cases e
      · exact q
    simp [z, hf, this]
/-! ### supports -/
theorem stepW_eq (b : Bk cs fs) (W : List Str) : stepW cs fs W = cs.filter fun s => (Fw.fo cs fs s).val (say W) := by
  have e : cs = (List.range cs.length).map fun k => (cs[k]?).getD ⟨#[]⟩ := by
    apply List.ext_getElem (by simp)
    intro i h1 h2
    simp [List.getElem?_eq_getElem h1]
  unfold stepW
  conv => rhs; rw [e]
  rw [List.filter_map]
  congr 1
  apply List.filter_congr
  intro k hk
  rw [List.mem_range] at hk
  simp only [Function.comp]
  rw [← e, List.getElem?_eq_getElem hk, Option.getD_some]
  unfold Fw.fo
  rw [b.nd.idxOf_getElem k hk]
theorem say_step (b : Bk cs fs) (W : List Str) (hs : s ∈ cs) : say (stepW cs fs W) s = (Fw.fo cs fs s).val (say W) := by
  rw [show say (stepW cs fs W) s = decide (s ∈ stepW cs fs W) from rfl, stepW_eq b]
  cases e : (Fw.fo cs fs s).val (say W) with
  | true => simp [List.mem_filter, hs, e]
  | false => simp [List.mem_filter, hs, e]
theorem filter_sub {p q : Str → Bool} (h : ∀ s ∈ cs, p s = true → q s = true) : (cs.filter p).Sublist (cs.filter q) := by
  induction cs with
  | nil => exact List.Sublist.slnil
  | cons x cs ih =>
    have ih := ih fun s hs => h s (List.mem_cons_of_mem _ hs)
    rw [List.filter_cons, List.filter_cons]
    by_cases z : p x = true
    · rw [if_pos z, if_pos (h x List.mem_cons_self z)]; exact ih.cons_cons x
    · rw [if_neg z]
      split
      · exact ih.cons x
      · exact ih
theorem step_mono (b : Bk cs fs) (hp : ∀ f ∈ fs, f.pos = true) {V W : List Str} (h : ∀ s ∈ cs, s ∈ V → s ∈ W) : (stepW cs fs V).Sublist (stepW cs fs W) := by
  rw [stepW_eq b, stepW_eq b]
  refine filter_sub fun s hs q => ?_
  refine Fm.pos_mono (cs := cs) ?_ _ (hp _ (fo_mem b.len hs)) (b.fo hs) q
  intro t ht e
  unfold say at *
  simp only [decide_eq_true_eq] at *
  exact h t ht e
def least (cs : List Str) (fs : List Fm) : List Str := itW cs fs [] (cs.length + 1)
def most (cs : List Str) (fs : List Fm) : List Str := itW cs fs cs (cs.length + 1)
theorem step_sub (b : Bk cs fs) : (stepW cs fs W).Sublist cs := by rw [stepW_eq b]; exact List.filter_sublist
theorem up (b : Bk cs fs) (hp : ∀ f ∈ fs, f.pos = true) : ∀ k, (itW cs fs [] k).Sublist (itW cs fs [] (k + 1))
  | 0 => List.nil_sublist _
  | k + 1 => step_mono b hp fun s _ h => (up b hp k).subset h
theorem down (b : Bk cs fs) (hp : ∀ f ∈ fs, f.pos = true) : ∀ k, (itW cs fs cs (k + 1)).Sublist (itW cs fs cs k)
  | 0 => step_sub b
  | k + 1 => step_mono b hp fun s _ h => (down b hp k).subset h
theorem least_fix (b : Bk cs fs) (hp : ∀ f ∈ fs, f.pos = true) : stepW cs fs (least cs fs) = least cs fs := by
  have h : ∀ k, itW cs fs [] k = itW cs fs [] (k + 1) ∨ k + 1 ≤ (itW cs fs [] (k + 1)).length := by
    intro k
    induction k with
    | zero =>
      by_cases e : itW cs fs [] 0 = itW cs fs [] 1
      · exact .inl e
      · right
        cases z : itW cs fs [] 1 with
        | nil => exact absurd z.symm e
        | cons x r => simp
    | succ k ih =>
      rcases ih with e | e
      · exact .inl (congrArg (stepW cs fs) e)
      · by_cases q : itW cs fs [] (k + 1) = itW cs fs [] (k + 2)
        · exact .inl q
        · right
          have h1 := up b hp (k + 1)
          have h2 := h1.length_le
          have h3 : (itW cs fs [] (k + 1)).length ≠ (itW cs fs [] (k + 1 + 1)).length := fun w => q (h1.eq_of_length w)
          omega
  rcases h cs.length with e | e
  · exact (congrArg (stepW cs fs) e).symm
  · have := (step_sub (W := itW cs fs [] cs.length) b).length_le
    have h2 : itW cs fs [] (cs.length + 1) = stepW cs fs (itW cs fs [] cs.length) := rfl
    rw [h2] at e; omega
theorem most_fix (b : Bk cs fs) (hp : ∀ f ∈ fs, f.pos = true) : stepW cs fs (most cs fs) = most cs fs := by
  have h : ∀ k, itW cs fs cs k = itW cs fs cs (k + 1) ∨ (itW cs fs cs (k + 1)).length + (k + 1) ≤ cs.length := by
    intro k
    induction k with
    | zero =>
      by_cases e : itW cs fs cs 0 = itW cs fs cs 1
      · exact .inl e
      · right
        have h1 := down b hp 0
        have h2 := h1.length_le
        have h3 : (itW cs fs cs (0 + 1)).length ≠ (itW cs fs cs 0).length := fun w => e (h1.eq_of_length w).symm
        have h4 : (itW cs fs cs 0).length = cs.length := rfl
        omega
    | succ k ih =>
      rcases ih with e | e
      · exact .inl (congrArg (stepW cs fs) e)
      · by_cases q : itW cs fs cs (k + 1) = itW cs fs cs (k + 2)
        · exact .inl q
        · right
          have h1 := down b hp (k + 1)
          have h2 := h1.length_le
          have h3 : (itW cs fs cs (k + 1 + 1)).length ≠ (itW cs fs cs (k + 1)).length := fun w => q (h1.eq_of_length w).symm
          omega
  rcases h cs.length with e | e
  · exact (congrArg (stepW cs fs) e).symm
  · omega
theorem mod_of_fix (b : Bk cs fs) (h : stepW cs fs W = W) : Mod cs fs W := by
  intro s hs
  rw [← say_step b W hs, h]
theorem least_sub (b : Bk cs fs) : (least cs fs).Sublist cs := step_sub b
theorem most_sub (b : Bk cs fs) : (most cs fs).Sublist cs := step_sub b
theorem it_below (b : Bk cs fs) (hp : ∀ f ∈ fs, f.pos = true) (hm : Mod cs fs W) : ∀ k, ∀ s ∈ cs, s ∈ itW cs fs [] k → s ∈ W
  | 0, s, _, h => by cases h
  | k + 1, s, hs, h => by
    have ih := it_below b hp hm k
    have e := say_step b (itW cs fs [] k) hs
    have h1 : (fo cs fs s).val (say (itW cs fs [] k)) = true := by rw [← e]; exact decide_eq_true h
    have h2 := Fm.pos_mono (cs := cs) (a := say (itW cs fs [] k)) (b := say W) (fun t ht q => by
      unfold say at *; simp only [decide_eq_true_eq] at *; exact ih t ht q) _ (hp _ (fo_mem b.len hs)) (b.fo hs) h1
    rw [hm s hs] at h2
    unfold say at h2
    simpa using h2
theorem it_above (b : Bk cs fs) (hp : ∀ f ∈ fs, f.pos = true) (hm : Mod cs fs W) : ∀ k, ∀ s ∈ cs, s ∈ W → s ∈ itW cs fs cs k
  | 0, s, hs, h => hs
  | k + 1, s, hs, h => by
    have ih := it_above b hp hm k
    have e := say_step b (itW cs fs cs k) hs
    have h2 := Fm.pos_mono (cs := cs) (a := say W) (b := say (itW cs fs cs k)) (fun t ht q => by
      unfold say at *; simp only [decide_eq_true_eq] at *; exact ih t ht q) _ (hp _ (fo_mem b.len hs)) (b.fo hs) (by rw [hm s hs]; unfold say; simpa using h)
    rw [← e] at h2
    exact of_decide_eq_true h2
structure SupMath (cs : List Str) (fs : List Fm) : Prop where
  en : Ends cs fs
  sta : wayL cs fs .sta = [labW cs (least cs fs)]
  mod : (((subsL cs).filter (Fw.isModel cs fs)).map (labW cs)).Perm (wayL cs fs .mod)
  gro : groL cs fs = sureL cs (least cs fs) (most cs fs)
  lk : ∀ p ∈ linkL cs fs, p.2.2 = "supports"
  btw : ∀ W ∈ (subsL cs).filter (Fw.isModel cs fs), (∀ s ∈ least cs fs, s ∈ W) ∧ ∀ s ∈ W, s ∈ most cs fs
  ls : least cs fs ∈ (subsL cs).filter (Fw.isModel cs fs)
  ms : most cs fs ∈ (subsL cs).filter (Fw.isModel cs fs)
  lm : ∀ s ∈ least cs fs, s ∈ most cs fs
  jn : (∀ s ∈ cs, s ∈ least cs fs) → 1 ≤ (everyN cs fs).length
theorem sup_math (b : Bk cs fs) (hp : ∀ f ∈ fs, f.pos = true) : SupMath cs fs := by
  have en := b.ends
  have lf := least_fix b hp
  have mf := most_fix b hp
  have lmod := mod_of_fix b lf
  have mmod := mod_of_fix b mf
  have lsub := least_sub (cs := cs) (fs := fs) b
  have msub := most_sub (cs := cs) (fs := fs) b
  have pm : ∀ {a c : Str → Bool} {s : Str}, s ∈ cs → (∀ t ∈ cs, a t = true → c t = true) → (fo cs fs s).val a = true → (fo cs fs s).val c = true := fun hs h q => Fm.pos_mono (cs := cs) h _ (hp _ (fo_mem b.len hs)) (b.fo hs) q
  have sayl : ∀ (W : List Str) t, say W t = true ↔ t ∈ W := fun W t => by unfold say; simp
  have memM : ∀ {W : List Str}, W.Sublist cs → Mod cs fs W → W ∈ (subsL cs).filter (Fw.isModel cs fs) := fun h1 h2 => List.mem_filter.mpr ⟨(subsL_mem _ cs rfl _).mpr h1, b.isModel.mpr h2⟩
  have btw : ∀ W ∈ (subsL cs).filter (Fw.isModel cs fs), (∀ s ∈ least cs fs, s ∈ W) ∧ ∀ s ∈ W, s ∈ most cs fs := by
    intro W hW
    rw [List.mem_filter] at hW
    have hsub := (subsL_mem _ cs rfl W).mp hW.1
    have hm := b.isModel.mp hW.2
    exact ⟨fun s hs => it_below b hp hm _ s (lsub.subset hs) hs, fun s hs => it_above b hp hm _ s (hsub.subset hs) hs⟩
  have lnext : ∀ {s : Str}, s ∈ cs → (fo cs fs s).val (say (least cs fs)) = true → s ∈ least cs fs := fun hs h => by
    rw [lmod _ hs, sayl] at h; exact h
  have lD : labW cs (least cs fs) ∈ doneL cs fs := mem_done.mpr ⟨lab_length _ _, b.fix_lab.mpr lmod⟩
  have itin : ∀ (F : List Lb), F.length = cs.length → (∀ s ∈ cs, s ∈ least cs fs → lb cs (gams cs fs F) s = .inn → lb cs F s = .inn) → ∀ k, ∀ s ∈ cs, s ∈ itW cs fs [] k → lb cs F s = .inn := by
    intro F fl hF k
    induction k with
    | zero => intro s _ h; cases h
    | succ k ih =>
      intro s hs h
      have e := say_step b (itW cs fs [] k) hs
      have h1 : (fo cs fs s).val (say (itW cs fs [] k)) = true := by rw [← e]; exact (sayl _ _).mpr h
      refine hF s hs (it_below b hp lmod (k + 1) s hs h) ((b.inn fl hs).mpr fun a ha => pm hs (fun t ht q => ?_) h1)
      exact (ha t ht).1 (ih t ht ((sayl _ _).mp q))
  have stabL : staB cs fs (labW cs (least cs fs)) = true := by
    unfold staB
    have hst := st_inv b (lab_length cs (least cs fs)) (b.fix_lab.mpr lmod)
    have hfx := en.sta _ lD
    generalize fixOf (stStep cs fs) cs.length (stStart (labW cs (least cs fs))) = F at hst hfx
    obtain ⟨fl, fo1, fo2⟩ := hst
    have this : F = labW cs (least cs fs) := by
      refine lb_ext b.nd fl (lab_length _ _) fun s hs => ?_
      rcases fo2 s hs with q | q
      · by_cases z : s ∈ least cs fs
        · have := itin F fl (fun s hs hl hg => by
            have e : lb cs (stStep cs fs F) s = lb cs F s := by rw [hfx]
            rw [lb_stStep F fl b.len hs] at e
            by_cases w : lb cs F s = .out
            · rcases fo2 s hs with v | v
              · rw [v] at w; cases w
              · rw [v, lb_lab _ hs, if_pos hl] at w; cases w
            · rw [if_neg w] at e; rw [← e, hg]) _ s hs z
          rw [this] at q; cases q
        · have := fo1 s hs (by rw [lb_lab _ hs, if_neg z])
          rw [this] at q; cases q
      · exact q
    simp [lab_noopen, b.fix_lab.mpr lmod, this]
  have sta : wayL cs fs .sta = [labW cs (least cs fs)] := by
    refine filter_one doneL_nodup lD stabL fun L hL q => ?_
    obtain ⟨hl, hf⟩ := mem_done.mp hL
    unfold staB at q
    simp only [Bool.and_eq_true, Bool.not_eq_true', decide_eq_false_iff_not, decide_eq_true_eq] at q
    have e := lab_inW b.nd hl q.1.1
    have hm : Mod cs fs (inW cs L) := b.fix_lab.mp (by rw [e, hf])
    have inv := fixOf_inv (stStep cs fs) (fun F => F.length = cs.length ∧ ∀ s ∈ cs, lb cs F s = .inn → s ∈ least cs fs) (by
      rintro F ⟨h1, h2⟩
      refine ⟨by rw [stStep_length, h1], fun s hs h => ?_⟩
      rw [lb_stStep F h1 b.len hs] at h
      split at h
      · cases h
      · refine lnext hs (pm hs (fun t ht w => ?_) ((b.inn h1 hs).mp h _ (comp_inh cs F)))
        exact (sayl _ _).mpr (h2 t ht (by simpa using w))) cs.length (stStart L) ⟨by unfold stStart; rw [List.length_map, hl], fun s hs h => by
          rw [lb_stStart hl hs] at h; split at h <;> cases h⟩
    rw [q.2] at inv
    refine lb_ext b.nd hl (lab_length _ _) fun s hs => ?_
    rw [lb_lab _ hs]
    cases w : lb cs L s with
    | inn => rw [if_pos (inv.2 s hs w)]
    | opn => exact absurd ((opn_mem b.nd hl).mpr ⟨s, hs, w⟩) q.1.1
    | out =>
      rw [if_neg fun h => ?_]
      have := it_below b hp hm _ s hs h
      unfold inW at this
      rw [List.mem_filter, w] at this
      simp at this
  have gl : (groL cs fs).length = cs.length := fixOf_inv (gams cs fs) (fun L => L.length = cs.length) (fun L _ => b.glen L) _ _ List.length_replicate
  have gro : groL cs fs = sureL cs (least cs fs) (most cs fs) := by
    have inv := fixOf_inv (gams cs fs) (fun L => L.length = cs.length ∧ (∀ s ∈ cs, lb cs L s = .inn → s ∈ least cs fs) ∧ ∀ s ∈ cs, lb cs L s = .out → ¬ s ∈ most cs fs) (by
      rintro F ⟨h1, h2, h3⟩
      refine ⟨b.glen F, fun s hs h => ?_, fun s hs h hm => ?_⟩
      · refine lnext hs (pm hs (fun t ht w => ?_) ((b.inn h1 hs).mp h _ (comp_inh cs F)))
        exact (sayl _ _).mpr (h2 t ht (by simpa using w))
      · have ha : Comp cs F fun s => decide (lb cs F s ≠ .out) := by
          intro t _
          constructor
          · intro e; simp [e]
          · intro e; simp [e]
        have hv := (b.out h1 hs).mp h _ ha
        have hv2 := pm (c := fun s => decide (lb cs F s ≠ .out)) hs (fun t ht w => by
          have := h3 t ht
          simp only [decide_eq_true_eq]
          exact fun z => this z ((sayl _ _).mp w)) (by rw [mmod s hs]; exact (sayl _ _).mpr hm)
        rw [hv] at hv2; cases hv2) cs.length (List.replicate cs.length .opn) ⟨List.length_replicate, fun s hs h => (by rw [lb_opens] at h; cases h), fun s hs h => (by rw [lb_opens] at h; cases h)⟩
    change (groL cs fs).length = cs.length ∧ (∀ s ∈ cs, lb cs (groL cs fs) s = .inn → s ∈ least cs fs) ∧ ∀ s ∈ cs, lb cs (groL cs fs) s = .out → ¬ s ∈ most cs fs at inv
    have gf := en.gro
    have inl := itin (groL cs fs) gl (fun s hs _ h => by rwa [gf] at h)
    have outl : ∀ k, ∀ s ∈ cs, ¬ s ∈ itW cs fs cs k → lb cs (groL cs fs) s = .out := by
      intro k
      induction k with
      | zero => intro s hs h; exact absurd hs h
      | succ k ih =>
        intro s hs h
        rw [← gf, b.out gl hs]
        intro a ha
        cases e : (fo cs fs s).val a with
        | false => rfl
        | true =>
          exfalso
          have := pm (c := say (itW cs fs cs k)) hs (fun t ht q => by
            rw [sayl]
            by_cases z : t ∈ itW cs fs cs k
            · exact z
            · rw [(ha t ht).2 (ih t ht z)] at q; cases q) e
          rw [← say_step b _ hs, sayl] at this
          exact h this
    unfold sureL
    refine lb_ext b.nd gl (by rw [List.length_map]) fun s hs => ?_
    rw [lb_map _ hs]
    unfold sureB
    by_cases z : s ∈ least cs fs
    · rw [if_pos z]; exact inl _ s hs z
    · rw [if_neg z]
      by_cases y : s ∈ most cs fs
      · rw [if_pos y]
        cases w : lb cs (groL cs fs) s with
        | opn => rfl
        | inn => exact absurd (inv.2.1 s hs w) z
        | out => exact absurd y (inv.2.2 s hs w)
      · rw [if_neg y]; exact outl _ s hs y
  refine ⟨en, sta, b.models_perm, gro, sup_lk b hp, btw, memM lsub lmod, memM msub mmod, (btw _ (memM lsub lmod)).2, fun hall => ?_⟩
  have : numA cs (fun _ => true) ∈ everyN cs fs := by
    unfold everyN
    rw [List.mem_filter, List.mem_range, List.all_eq_true]
    refine ⟨numA_lt _ _, fun x hx => ?_⟩
    obtain ⟨f, hf, rfl⟩ := List.mem_map.mp hx
    obtain ⟨k, hk, e⟩ := List.getElem_of_mem hf
    have hkc : k < cs.length := by rw [← b.len]; exact hk
    have hs : cs[k] ∈ cs := List.getElem_mem hkc
    have ef : fo cs fs cs[k] = f := by rw [fo_at b.nd hkc, List.getElem?_eq_getElem hk, Option.getD_some, e]
    have h1 := lmod cs[k] hs
    rw [ef, (sayl _ _).mpr (hall _ hs)] at h1
    refine (Fm.val_congr (cs := cs) (fun t ht => ?_) f (b.wf f hf)).trans h1
    rw [numA_asg _ t ht, (sayl _ _).mpr (hall t ht)]
  exact List.length_pos_of_mem this
end
end Fw
end
section
set_option Elab.async false
set_option linter.all false
set_option autoImplicit false
set_option maxRecDepth 10000
set_option maxHeartbeats 4000000
/-! Pl37: the supports fit. -/
namespace Fw
open PySem
def l32 (x t m lb md w17 w20 w21 : Nat) : FD := ⟨1, 11, [
  .asg (.name 1) (.call m [(.var 0), (.b2 .add (.cst (.int 1)) (.call x [(.var 0), (.cst (.int 4))])), (.cst (.int 0))]),
  .asg (.name 2) (.tup []),
  .for_ (.name 3) .rng1 [(.b2 .add (.prim .len [(.idx (.var 1) (.cst (.int 0)))]) (.cst (.int 1)))] (stepS t 2),
  .asg (.name 4) (.idx (.var 1) (.cst (.int 0))),
  .for_ (.name 3) .rng1 [(.b2 .add (.prim .len [(.idx (.var 1) (.cst (.int 0)))]) (.cst (.int 1)))] (stepS t 4),
  .asg (.name 5) (.call md [(.var 1)]),
  .ife (.or (.b2 .ne (.call w17 [(.var 1), (.cst (.str "stable"))]) (.tup [(.call lb [(.var 1), (.var 2)])])) (.b2 .ne (.call w17 [(.var 1), (.cst (.str "model"))]) (.prim .tuple [(.prim .sorted [(.comp false (.call lb [(.var 1), (.var 8)]) (.name 8) .seq [(.var 5)] [])])]))) [.ret (.cst (.bl false))] [],
  .ife (.or (.u1 .not (.prim .all [(.comp false (.and (.prim .all [(.comp false (.b2 .inn (.var 9) (.var 8)) (.name 9) .seq [(.var 2)] [])]) (.prim .all [(.comp false (.b2 .inn (.var 9) (.var 4)) (.name 9) .seq [(.var 8)] [])])) (.name 8) .seq [(.var 5)] [])])) (.or (.b2 .notin (.var 2) (.var 5)) (.b2 .notin (.var 4) (.var 5)))) [.ret (.cst (.bl false))] [],
  .asg (.name 6) sureE,
  .ife (.b2 .ne (.call w17 [(.var 1), (.cst (.str "grounded"))]) (.tup [(.var 6)])) [.ret (.cst (.bl false))] [],
  .ret (.and (.prim .all [(.comp false (.b2 .eq (.var 11) (.cst (.str "supports"))) (.tup [8, 10, 11]) .seq [(.call w20 [(.var 1)])] [])]) (.b2 .ge (.idx (.call w21 [(.var 1)]) (.cst (.int 0))) (.prim .int [(.prim .all [(.comp false (.b2 .inn (.var 9) (.var 2)) (.name 9) .seq [(.idx (.var 1) (.cst (.int 0)))] [])])])))]⟩
theorem items_r1s {S : Store} {n : Nat} (h : n ≤ 10000) : items .rng1 S [.int ((n : Int) + 1)] = some ((List.range (n + 1)).map fun i : Nat => D.int (i : Nat)) := by
  have := items_r1 (S := S) (n := n + 1) (by omega)
  rw [← this]; rfl
theorem map_strsD_mem (W : List Str) (rows : List (List Str)) : memD (.tup (W.map .str)) (rows.map strsD) = some (decide (W ∈ rows)) := by
  rw [memD_sx (Sx.strs W) (fun y hy => by obtain ⟨V, _, rfl⟩ := List.mem_map.mp hy; exact Sx.strs V)]
  congr 1
  rw [decide_eq_decide]
  constructor
  · intro h
    obtain ⟨V, hV, e⟩ := List.mem_map.mp h
    rw [← strs_inj.mp e]; exact hV
  · intro h; exact List.mem_map.mpr ⟨W, h, rfl⟩
theorem eqD_one (L : List Lb) (A : List (List Lb)) : eqD (.tup (A.map encL)) (.tup [encL L]) = some (decide (A = [L])) := by
  have := eqD_rows A [L]
  exact this
theorem sup_spec {P : Prog} {o : Nat → Nat} {cc : Nat} (B : Base P o cc) (h7 : P.funs[o 7]? = some b7) (h9 : P.funs[o 9]? = some b9) (h16 : P.funs[o 16]? = some (b16 o)) (h17 : P.funs[o 17]? = some (b17 o cc)) (h19 : P.funs[o 19]? = some (b19 o cc)) (h20 : P.funs[o 20]? = some (b20 o)) (h21 : P.funs[o 21]? = some (b21 o cc))
    {x p m a t s lb md i : Nat} (hx : P.funs[x]? = some l22) (hp : P.funs[p]? = some (l27 x p)) (hmd : P.funs[m]? = some (l28 x p)) (ha : P.funs[a]? = some l24) (ht : P.funs[t]? = some (l25 t a)) (hs : P.funs[s]? = some l23) (hlb : P.funs[lb]? = some l30) (hml : P.funs[md]? = some (l29 t s)) (hi : P.funs[i]? = some (l32 x t m lb md (o 17) (o 20) (o 21)))
    (math : ∀ many cs fs, many ≤ 6 → MadeB 0 many cs fs → SupMath cs fs)
    {nums : List Int} (hn : StOk nums) {S : Store} {r : Nat} (hr : r < S.length) (n c : Nat) (hc : c + 200 < 1000000000) :
    ∃ c', c ≤ c' ∧ c' ≤ c + 121 ∧ run P (n + 16) i [.ref r] (S.set r (stC nums c)) = some (.bl true, S.set r (stC nums c')) := by
  obtain ⟨many, cs, fs, c', hm6, hm1, hmb, hc1, hc2, hbook⟩ := ev_book hx hp hmd hn hr 0 (by omega) 4 (by omega) (by omega) (n + 10) c hc (σ := [some (.ref r), none, none, none, none, none, none, none, none, none, none, none]) rfl
  have ok := hmb.ok hm6
  have mt := math many cs fs hm6 hmb
  have hk := ok.n6
  have hfd : ∀ f ∈ fs, f.dep ≤ 3 ∧ f.parts ≤ 1000 := fun f hf => by
    obtain ⟨k, hkl, e⟩ := List.getElem_of_mem hf
    have h := hmb.each k f (by rw [← e]; exact List.getElem?_eq_getElem hkl)
    have h1 := h.pts
    have h2 := h.dep
    exact ⟨by omega, by omega⟩
  refine ⟨c', hc1, hc2, ?_⟩
  rw [run_ax hi rfl]
  generalize hT : S.set r (stC nums c') = T
  rw [hT] at hbook
  have hbook' : ev (cal P (run P (n + 15))) (.call m [(.var 0), (.b2 .add (.cst (.int 1)) (.call x [(.var 0), (.cst (.int 4))])), (.cst (.int 0))]) [some (.ref r), none, none, none, none, none, none, none, none, none, none, none] (S.set r (stC nums c)) = some (bookD cs fs, T) := hbook
  obtain ⟨rows, hperm, hrows⟩ := models_spec ha ht hs hml (n + 9) cs fs T hk ok.len hfd
  have hrl : rows.length ≤ 1000 := by
    rw [hperm.length_eq]
    refine Nat.le_trans (List.length_filter_le _ _) ?_
    rw [subsL_length]
    exact Nat.le_trans (Nat.pow_le_pow_right (by omega) hk) (by decide)
  have hrm : ∀ W, W ∈ rows ↔ W ∈ (subsL cs).filter (isModel cs fs) := fun W => hperm.mem_iff
  have loop : ∀ (v : Nat) (hv : v < 12) (hv3 : v ≠ 3) (hv7 : v ≠ 7) (hv1 : v ≠ 1) (g : Store → Bool) (hg : g T = true) (σ : Ev) (W : List Str), σ.length = 12 → getV σ 1 = some (bookD cs fs) → getV σ v = some (strsD W) → ∃ x3, forL g (.name 3) (fun σ s => exs (cal P (run P (n + 15))) (stepS t v) σ s) ((List.range (cs.length + 1)).map fun i : Nat => D.int (i : Nat)) σ T = some (.nx, (σ.set 3 x3).set v (some (strsD (itW cs fs W (cs.length + 1)))), T) := by
    intro v hv hv3 hv7 hv1 g hg σ W hl h1 hW
    obtain ⟨x3, e⟩ := turn_loop ha ht (n + 10) cs fs T hk ok.len hfd v hv hv3 hv7 hv1 g hg (List.range (cs.length + 1)) σ W hl h1 hW
    rw [if_neg (by simp), List.length_range] at e
    exact ⟨x3, e⟩
  obtain ⟨x3, l1⟩ := loop 2 (by omega) (by omega) (by omega) (by omega) (fun s' => guard T s' [.int ((cs.length : Int) + 1)]) rfl [some (.ref r), some (bookD cs fs), some (strsD []), none, none, none, none, none, none, none, none, none] [] rfl rfl rfl
  obtain ⟨y3, l2⟩ := loop 4 (by omega) (by omega) (by omega) (by omega) (fun s' => guard T s' [.int ((cs.length : Int) + 1)]) rfl [some (.ref r), some (bookD cs fs), some (strsD (least cs fs)), x3, some (strsD cs), none, none, none, none, none, none, none] cs rfl rfl rfl
  simp only [List.set_cons_zero, List.set_cons_succ, strsD, List.map_nil, show itW cs fs [] (cs.length + 1) = least cs fs from rfl, show itW cs fs cs (cs.length + 1) = most cs fs from rfl] at l1 l2
  have e2 := ev_modelRows (σ := [some (.ref r), some (bookD cs fs), some (strsD (least cs fs)), y3, some (strsD (most cs fs)), some (.lst (rows.map strsD)), none, none, none, none, none, none]) (its := [.var 5]) (j := 8) hlb (n + 14) cs fs T hk hrl .mod ((hperm.map _).trans mt.mod) (evs_1 rfl) rfl (by simp) (by omega)
  have es := ev_sure (C := cal P (run P (n + 15))) (σ := [some (.ref r), some (bookD cs fs), some (strsD (least cs fs)), y3, some (strsD (most cs fs)), some (.lst (rows.map strsD)), none, none, none, none, none, none]) (T := T) (cs := cs) (A := least cs fs) (M := most cs fs) (fs := fs) rfl rfl rfl (by simp) hk mt.lm
  have wm := ways_spec B h7 h9 h16 h17 (n + 1) cs fs T ok mt.en .mod
  have ws := ways_spec B h7 h9 h16 h17 (n + 1) cs fs T ok mt.en .sta
  have wg := ways_spec B h7 h9 h16 h17 (n + 1) cs fs T ok mt.en .gro
  have lk := links_spec B h9 h19 h20 n cs fs T ok
  have jn := joins_spec B h9 h21 (n + 1) cs fs T ok
  have lw := fun W => lab_spec hlb (n + 14) cs fs W T hk
  have rw1 : ∀ W ∈ rows, ((least cs fs).all fun c => decide (c ∈ W)) = true := fun W hW => List.all_eq_true.mpr fun c hc => decide_eq_true ((mt.btw W ((hrm W).mp hW)).1 c hc)
  have rw2 : ∀ W ∈ rows, (W.all fun c => decide (c ∈ most cs fs)) = true := fun W hW => List.all_eq_true.mpr fun c hc => decide_eq_true ((mt.btw W ((hrm W).mp hW)).2 c hc)
  have ql : (least cs fs).length ≤ 6 := Nat.le_trans (List.Sublist.length_le (least_sub ok.bk)) hk
  have rl : ∀ W ∈ rows, W.length ≤ 16777216 := fun W hW => by
    have h := (hrm W).mp hW
    rw [List.mem_filter] at h
    exact Nat.le_trans (List.Sublist.length_le ((subsL_mem _ cs rfl W).mp h.1)) (Nat.le_trans hk (by omega))
  have hll : (linkL cs fs).length ≤ 36 := Nat.le_trans (show (linkL cs fs).length ≤ (linkAll cs fs).length from List.length_filter_le _ _) (linkAll_length cs fs hk)
  have hrest : (leaveF (S.set r (stC nums c)) (.rt (.bl true), [some (.ref r), some (bookD cs fs), some (strsD (least cs fs)), y3, some (strsD (most cs fs)), some (.lst (rows.map strsD)), some (encL (sureL cs (least cs fs) (most cs fs))), none, none, none, none, none], T)) = some (.bl true, T) := by
    rw [← hT]
    have e : S.set r (stC nums c') = (S.set r (stC nums c)).set r (stC nums c') := by rw [List.set_set]
    rw [e]
    exact leaveF_set0 (fun b => stC_ok nums c' b) rfl
  have m2 : memD (.tup ((least cs fs).map .str)) (rows.map strsD) = some true := by rw [map_strsD_mem, decide_eq_true ((hrm _).mpr mt.ls)]
  have m4 : memD (.tup ((most cs fs).map .str)) (rows.map strsD) = some true := by rw [map_strsD_mem, decide_eq_true ((hrm _).mpr mt.ms)]
  simp only [waysD, mt.sta] at wm ws wg
  have eq1 : eqD (.tup [encL (labW cs (least cs fs))]) (.tup [encL (labW cs (least cs fs))]) = some true := by
    have := eqD_rows [labW cs (least cs fs)] [labW cs (least cs fs)]
    rwa [decide_eq_true rfl] at this
  have eq2 : eqD (.tup ((wayL cs fs .mod).map encL)) (.tup ((wayL cs fs .mod).map encL)) = some true := by rw [eqD_rows, decide_eq_true rfl]
  have eq3 : eqD (.tup ((wayL cs fs .gro).map encL)) (.tup [encL (sureL cs (least cs fs) (most cs fs))]) = some true := by
    rw [eqD_one]
    show some (decide ([groL cs fs] = [_])) = _
    rw [mt.gro, decide_eq_true rfl]
  have ws' : run P (n + 15) (o 17) [bookD cs fs, .str "stable"] T = some (.tup [encL (labW cs (least cs fs))], T) := ws
  have wm' : run P (n + 15) (o 17) [bookD cs fs, .str "model"] T = some (.tup ((wayL cs fs .mod).map encL), T) := wm
  have wg' : run P (n + 15) (o 17) [bookD cs fs, .str "grounded"] T = some (.tup ((wayL cs fs .gro).map encL), T) := wg
  clear wm ws wg
  have hall : (rows.all fun W => ((least cs fs).all fun c => decide (c ∈ W)) && W.all fun c => decide (c ∈ most cs fs)) = true := List.all_eq_true.mpr fun W hW => by rw [rw1 W hW, rw2 W hW]; rfl
  have jn' : run P (n + 15) (o 21) [bookD cs fs] T = some (.tup [.int ((everyN cs fs).length : Nat), .int ((noneN cs fs).length : Nat)], T) := jn
  have hlk : ((linkL cs fs).all fun p => decide (p.2.2 = Str.ofString "supports")) = true := List.all_eq_true.mpr fun p hp => decide_eq_true (mt.lk p hp)
  clear jn
  (simp (implicitDefEqProofs := false) (disch := (first | exact guard_nr _ | assumption | omega | (have := List.mem_range.mp (by assumption); omega) | ((try simp only [List.length_map, List.length_append, List.length_cons, List.length_nil, List.length_range, List.length_zipIdx, List.length_zip, List.length_take, List.length_drop]); first | omega | solve_by_elim | (refine Nat.le_trans (List.length_filter_le _ _) ?_; (try simp only [List.length_map, List.length_append, List.length_cons, List.length_nil, List.length_range, List.length_zipIdx, List.length_zip, List.length_take, List.length_drop]); first | omega | solve_by_elim)))) only [x_cst, x_var, x_tup, x_lst, x_b2, x_u1, x_and, x_or, x_ite, x_chain, x_idx, x_slc, x_prim, x_call, x_evo_n, x_evo_s, x_evs_nil, x_evs, x_evs_star, x_evc_nil, x_evc1, x_comp, x_comp2, x_exs_nil, x_exs, x_asg, x_ret, x_retN, x_expr, x_par, x_ife, x_for, x_brk, x_cont, x_pass, ↓ob_some, ↓ob_none, ↓ob_ite, ↓ifD_t, ↓ifD_f, ↓ifD_b, ↓nxt_nx, ↓nxt_rt, ↓nxt_bk, ↓nxt_ct, ↓asInt_i, ↓cL_nil, ↓cL_cons, ↓cL_V, ↓cV_done, lv0, lv1, lvn0, lvn1, fm_one, fm_if, deref_nr, ite_some2, ite_bl_and, ite_bl_or, mk_ff, mk_tt, tup_lim, add_tup, add_lst, all_map, any_map, items_r1, mem_strs, atI_get, atI_0, atI_1, atI_2, bindT_name, bindT_tup, bindL_nil, bindL_cons, getV_0, getV_s, List.length_map, List.set_cons_zero, List.set_cons_succ, List.getElem?_cons_zero, List.getElem?_cons_succ, Option.join_some, Option.map_some, Option.getD_some, List.map_cons, List.map_nil, List.cons_append, List.nil_append, List.append_nil, List.replicate, reduceIte, if_true, if_false, Bool.false_eq_true, decide_true, decide_false, seqOf_tup, seqOf_lst, de_str, de_int, de_bl, de_non, de_tup, de_lst, de_dic, de_inp, eqD_str, eqD_int, eqD_bl, bin_eq, bin_ne, bin_inn_tup, bin_inn_lst, bin_notin_tup, bin_notin_lst, bin_inn_str, bin_notin_str, bin_add_int, bin_sub_int, bin_lt_int, bin_gt_int, bin_le_int, bin_ge_int, bin_band, bin_bor, un_not, un_inv, idx_tup, idx_lst, idx_str, idx_dic, slc_tup, slc_lst, slc_inp, prim_len_tup, prim_len_lst, prim_len_str, prim_int_int, prim_int_bl, prim_tuple_lst, prim_tuple_tup, prim_list_lst, prim_list_tup, prim_all, prim_any, prim_sum, prim_max2, prim_sorted, prim_abs, boolsOf_map, intsOf_map, cut_from1, items_tup, items_lst, cal_fn, cal_W, cal_meth, cal_init, l32, ↓hbook', items_r1s, fL_eq l1, fL_eq l2, hrows, ws', wm', wg', ↓e2, ↓es, lk, jn', lw, m2, m4, eq1, eq2, eq3, Bool.not_true, hall, tri, hlk])
  have hd : (decide (((if (cs.all fun x => decide (x ∈ least cs fs)) = true then 1 else 0 : Int)) ≤ ((everyN cs fs).length : Int))) = true := by
    refine decide_eq_true ?_
    split
    · rename_i h
      have := mt.jn fun s hs => of_decide_eq_true (List.all_eq_true.mp h s hs)
      omega
    · omega
  rw [hd]
  exact hrest
end Fw
end
section
set_option Elab.async false
set_option linter.all false
set_option autoImplicit false
set_option maxRecDepth 10000
set_option maxHeartbeats 4000000
/-! Pl38: the law. -/
namespace Fw
open PySem
def l34 (s f1 f2 f3 : Nat) : FD := ⟨1, 2, [
  .asg (.name 1) (.lst true [(.call s [(.var 0)]), (.cst (.int 0))]),
  .for_ (.name 2) .rng1 [(.cst (.int 4))] [.ife (.or (.u1 .not (.call f1 [(.var 1)])) (.or (.u1 .not (.call f2 [(.var 1)])) (.u1 .not (.call f3 [(.var 1)])))) [.ret (.cst (.bl false))] []],
  .ret (.cst (.bl true))]⟩
/-- a fit that always holds -/
def Fit (P : Prog) (n i : Nat) (nums : List Int) (S : Store) : Prop := ∀ c, c + 200 < 1000000000 → ∃ c', c ≤ c' ∧ c' ≤ c + 121 ∧ run P n i [.ref S.length] (S ++ [stC nums c]) = some (.bl true, S ++ [stC nums c'])
theorem law3 {P : Prog} {s f1 f2 f3 i : Nat} (hs : P.funs[s]? = some l26) (hi : P.funs[i]? = some (l34 s f1 f2 f3)) (n : Nat) (S : Store) (hf : ∀ nums, StOk nums → Fit P (n + 1) f1 nums S ∧ Fit P (n + 1) f2 nums S ∧ Fit P (n + 1) f3 nums S) (ns : List Int) (hl : ns.length ≤ 63) :
    ∃ S', run P (n + 2) i [.inp (ns.map .int)] S = some (.bl true, S') := by
  obtain ⟨nums, hn, h0⟩ := stream_spec hs n ns S hl
  obtain ⟨g1, g2, g3⟩ := hf nums hn
  rw [run_ax hi rfl]
  have loop := forL_inv (g := fun S' => guard (S ++ [stC nums 0]) S' [.int 4]) (t := .name 2) (body := fun σ s => exs (cal P (run P (n + 1))) [.ife (.or (.u1 .not (.call f1 [(.var 1)])) (.or (.u1 .not (.call f2 [(.var 1)])) (.u1 .not (.call f3 [(.var 1)])))) [.ret (.cst (.bl false))] []] σ s) (fun i : Nat => D.int (i : Nat))
    (fun q σ S' => ∃ c x, c + 363 * q.length ≤ 5000 ∧ S' = S ++ [stC nums c] ∧ σ = [some (.inp (ns.map .int)), some (.ref S.length), x])
    (fun res => ∃ c x, res = some (.nx, [some (.inp (ns.map .int)), some (.ref S.length), x], S ++ [stC nums c]))
    (xs := List.range 4) (σ := [some (.inp (ns.map .int)), some (.ref S.length), none]) (S := S ++ [stC nums 0])
    ⟨0, none, by decide, rfl, rfl⟩
    (fun k q σ S' ⟨c, x, hc, hS', hσ⟩ => by
      subst hS' hσ
      rw [List.length_cons] at hc
      obtain ⟨c1, a1, b1, e1⟩ := g1 c (by omega)
      obtain ⟨c2, a2, b2, e2⟩ := g2 c1 (by omega)
      obtain ⟨c3, a3, b3, e3⟩ := g3 c2 (by omega)
      refine ⟨[some (.inp (ns.map .int)), some (.ref S.length), some (.int (k : Nat))], rfl, .inl ⟨[some (.inp (ns.map .int)), some (.ref S.length), some (.int (k : Nat))], S ++ [stC nums c3], .inl ?_, rfl, c3, _, by omega, rfl, rfl⟩⟩
      (simp (implicitDefEqProofs := false) (disch := (first | exact guard_nr _ | assumption | omega | (have := List.mem_range.mp (by assumption); omega) | ((try simp only [List.length_map, List.length_append, List.length_cons, List.length_nil, List.length_range, List.length_zipIdx, List.length_zip, List.length_take, List.length_drop]); first | omega | solve_by_elim | (refine Nat.le_trans (List.length_filter_le _ _) ?_; (try simp only [List.length_map, List.length_append, List.length_cons, List.length_nil, List.length_range, List.length_zipIdx, List.length_zip, List.length_take, List.length_drop]); first | omega | solve_by_elim)))) only [x_cst, x_var, x_tup, x_lst, x_b2, x_u1, x_and, x_or, x_ite, x_chain, x_idx, x_slc, x_prim, x_call, x_evo_n, x_evo_s, x_evs_nil, x_evs, x_evs_star, x_evc_nil, x_evc1, x_comp, x_comp2, x_exs_nil, x_exs, x_asg, x_ret, x_retN, x_expr, x_par, x_ife, x_for, x_brk, x_cont, x_pass, ↓ob_some, ↓ob_none, ↓ob_ite, ↓ifD_t, ↓ifD_f, ↓ifD_b, ↓nxt_nx, ↓nxt_rt, ↓nxt_bk, ↓nxt_ct, ↓asInt_i, ↓cL_nil, ↓cL_cons, ↓cL_V, ↓cV_done, lv0, lv1, lvn0, lvn1, fm_one, fm_if, deref_nr, ite_some2, ite_bl_and, ite_bl_or, mk_ff, mk_tt, tup_lim, add_tup, add_lst, all_map, any_map, items_r1, mem_strs, atI_get, atI_0, atI_1, atI_2, bindT_name, bindT_tup, bindL_nil, bindL_cons, getV_0, getV_s, List.length_map, List.set_cons_zero, List.set_cons_succ, List.getElem?_cons_zero, List.getElem?_cons_succ, Option.join_some, Option.map_some, Option.getD_some, List.map_cons, List.map_nil, List.cons_append, List.nil_append, List.append_nil, List.replicate, reduceIte, if_true, if_false, Bool.false_eq_true, decide_true, decide_false, seqOf_tup, seqOf_lst, de_str, de_int, de_bl, de_non, de_tup, de_lst, de_dic, de_inp, eqD_str, eqD_int, eqD_bl, bin_eq, bin_ne, bin_inn_tup, bin_inn_lst, bin_notin_tup, bin_notin_lst, bin_inn_str, bin_notin_str, bin_add_int, bin_sub_int, bin_lt_int, bin_gt_int, bin_le_int, bin_ge_int, bin_band, bin_bor, un_not, un_inv, idx_tup, idx_lst, idx_str, idx_dic, slc_tup, slc_lst, slc_inp, prim_len_tup, prim_len_lst, prim_len_str, prim_int_int, prim_int_bl, prim_tuple_lst, prim_tuple_tup, prim_list_lst, prim_list_tup, prim_all, prim_any, prim_sum, prim_max2, prim_sorted, prim_abs, boolsOf_map, intsOf_map, cut_from1, items_tup, items_lst, cal_fn, cal_W, cal_meth, cal_init, e1, e2, e3, Bool.not_true]))
    (fun σ S' ⟨c, x, _, hS', hσ⟩ => by
      subst hS' hσ
      exact ⟨c, x, rfl⟩)
  obtain ⟨c, x, e1⟩ := loop
  have e0 : (S ++ [Cell.lst [.lst (nums.map .int), .int 0]]) = S ++ [stC nums 0] := rfl
  have i4 : items .rng1 (S ++ [stC nums 0]) [.int 4] = some ((List.range 4).map fun i : Nat => D.int (i : Nat)) := items_r1 (n := 4) (by omega)
  have e1' : forL (fun S' => guard (S ++ [stC nums 0]) S' [.int 4]) (.name 2) (fun σ s => exs (cal P (run P (n + 1))) [.ife (.or (.u1 .not (.call f1 [(.var 1)])) (.or (.u1 .not (.call f2 [(.var 1)])) (.u1 .not (.call f3 [(.var 1)])))) [.ret (.cst (.bl false))] []] σ s) ((List.range 4).map fun i : Nat => D.int (i : Nat)) [some (.inp (ns.map .int)), some (.ref S.length), none] (S ++ [stC nums 0]) = some (.nx, [some (.inp (ns.map .int)), some (.ref S.length), x], S ++ [stC nums c]) := e1
  refine ⟨S, ?_⟩
  (simp (implicitDefEqProofs := false) (disch := (first | exact guard_nr _ | assumption | omega | (have := List.mem_range.mp (by assumption); omega) | ((try simp only [List.length_map, List.length_append, List.length_cons, List.length_nil, List.length_range, List.length_zipIdx, List.length_zip, List.length_take, List.length_drop]); first | omega | solve_by_elim | (refine Nat.le_trans (List.length_filter_le _ _) ?_; (try simp only [List.length_map, List.length_append, List.length_cons, List.length_nil, List.length_range, List.length_zipIdx, List.length_zip, List.length_take, List.length_drop]); first | omega | solve_by_elim)))) only [x_cst, x_var, x_tup, x_lst, x_b2, x_u1, x_and, x_or, x_ite, x_chain, x_idx, x_slc, x_prim, x_call, x_evo_n, x_evo_s, x_evs_nil, x_evs, x_evs_star, x_evc_nil, x_evc1, x_comp, x_comp2, x_exs_nil, x_exs, x_asg, x_ret, x_retN, x_expr, x_par, x_ife, x_for, x_brk, x_cont, x_pass, ↓ob_some, ↓ob_none, ↓ob_ite, ↓ifD_t, ↓ifD_f, ↓ifD_b, ↓nxt_nx, ↓nxt_rt, ↓nxt_bk, ↓nxt_ct, ↓asInt_i, ↓cL_nil, ↓cL_cons, ↓cL_V, ↓cV_done, lv0, lv1, lvn0, lvn1, fm_one, fm_if, deref_nr, ite_some2, ite_bl_and, ite_bl_or, mk_ff, mk_tt, tup_lim, add_tup, add_lst, all_map, any_map, items_r1, mem_strs, atI_get, atI_0, atI_1, atI_2, bindT_name, bindT_tup, bindL_nil, bindL_cons, getV_0, getV_s, List.length_map, List.set_cons_zero, List.set_cons_succ, List.getElem?_cons_zero, List.getElem?_cons_succ, Option.join_some, Option.map_some, Option.getD_some, List.map_cons, List.map_nil, List.cons_append, List.nil_append, List.append_nil, List.replicate, reduceIte, if_true, if_false, Bool.false_eq_true, decide_true, decide_false, seqOf_tup, seqOf_lst, de_str, de_int, de_bl, de_non, de_tup, de_lst, de_dic, de_inp, eqD_str, eqD_int, eqD_bl, bin_eq, bin_ne, bin_inn_tup, bin_inn_lst, bin_notin_tup, bin_notin_lst, bin_inn_str, bin_notin_str, bin_add_int, bin_sub_int, bin_lt_int, bin_gt_int, bin_le_int, bin_ge_int, bin_band, bin_bor, un_not, un_inv, idx_tup, idx_lst, idx_str, idx_dic, slc_tup, slc_lst, slc_inp, prim_len_tup, prim_len_lst, prim_len_str, prim_int_int, prim_int_bl, prim_tuple_lst, prim_tuple_tup, prim_list_lst, prim_list_tup, prim_all, prim_any, prim_sum, prim_max2, prim_sorted, prim_abs, boolsOf_map, intsOf_map, cut_from1, items_tup, items_lst, cal_fn, cal_W, cal_meth, cal_init, l34, h0, e0, i4, ↓fL_eq e1'])
/-! ### k79 -/
theorem Fit.of {P : Prog} {n i : Nat} {nums : List Int} {S : Store} (h : ∀ (T : Store) (r : Nat), r < T.length → ∀ c, c + 200 < 1000000000 → ∃ c', c ≤ c' ∧ c' ≤ c + 121 ∧ run P n i [.ref r] (T.set r (stC nums c)) = some (.bl true, T.set r (stC nums c'))) : Fit P n i nums S := by
  intro c hc
  obtain ⟨c', h1, h2, h3⟩ := h (S ++ [stC nums 0]) S.length (by simp) c hc
  rw [app_set, app_set] at h3
  exact ⟨c', h1, h2, h3⟩
theorem MadeB.fwd {many : Nat} {cs : List Str} {fs : List Fm} (h : MadeB 2 many cs fs) : Fwd cs fs := fun k f e => by
  have := (h.each k f e).wf
  exact this
theorem MadeB.allpos {many : Nat} {cs : List Str} {fs : List Fm} (h : MadeB 0 many cs fs) : ∀ f ∈ fs, f.pos = true := fun f hf => by
  obtain ⟨k, hk, e⟩ := List.getElem_of_mem hf
  exact (h.each k f (by rw [← e]; exact List.getElem?_eq_getElem hk)).pos rfl
theorem MadeB.allneg {many : Nat} {cs : List Str} {fs : List Fm} (h : MadeB 1 many cs fs) : ∀ f ∈ fs, f.neg = true := fun f hf => by
  obtain ⟨k, hk, e⟩ := List.getElem_of_mem hf
  exact (h.each k f (by rw [← e]; exact List.getElem?_eq_getElem hk)).neg rfl
def P79 : Prog := ⟨[b0, b1, b2, b3, b4 id, b5 id, b6 id, b7, b8, b9, b10 id, b11, b12, b13, b14, b15, b16 id, b17 id 0, b18 id 0, b19 id 0, b20 id, b21 id 0, l22, l23, l24, l25 25 24, l26, l27 22 27, l28 22 27, l29 25 23, l30, l31 22 28 25 30 17 18, l32 22 25 28 30 29 17 20 21, l33 22 28 30 29 17 20, l34 26 31 32 33], [[("__init__", 9), ("holds", 10), ("allowed", 11), ("after", 12), ("least", 13), ("is_stable", 14)]], 1000⟩
theorem base79 : Base P79 id 0 := ⟨rfl, rfl, rfl, rfl, rfl, rfl, rfl, rfl, rfl, rfl, rfl, rfl, rfl, rfl, rfl, rfl, rfl, rfl, rfl, rfl⟩
theorem truth79 (ns : List Int) (hl : ns.length ≤ 63) : ∃ S', run P79 30 34 [.inp (ns.map .int)] [] = some (.bl true, S') := by
  refine law3 (s := 26) (f1 := 31) (f2 := 32) (f3 := 33) rfl rfl 28 [] (fun nums hn => ⟨Fit.of fun T r hr c hc => ?_, Fit.of fun T r hr c hc => ?_, Fit.of fun T r hr c hc => ?_⟩) ns hl
  · exact fwd_spec base79 rfl rfl rfl rfl rfl rfl (x := 22) (p := 27) (m := 28) (a := 24) (t := 25) (lb := 30) rfl rfl rfl rfl rfl rfl rfl (fun many cs fs hm h => fwd_math (h.ok hm).bk h.fwd) hn hr 14 c hc
  · exact sup_spec base79 rfl rfl rfl rfl rfl rfl rfl (x := 22) (p := 27) (m := 28) (a := 24) (t := 25) (s := 23) (lb := 30) (md := 29) rfl rfl rfl rfl rfl rfl rfl rfl rfl (fun many cs fs hm h => sup_math (h.ok hm).bk h.allpos) hn hr 13 c hc
  · exact att_spec base79 rfl rfl rfl rfl rfl rfl (x := 22) (p := 27) (m := 28) (a := 24) (t := 25) (s := 23) (lb := 30) (md := 29) rfl rfl rfl rfl rfl rfl rfl rfl rfl (fun many cs fs hm h => att_math (h.ok hm).bk h.allneg) hn hr 13 c hc
end Fw
end
section
set_option Elab.async false
set_option linter.all false
set_option maxRecDepth 100000
set_option maxHeartbeats 0
open PySem PySem.W PyProof.Rows
theorem pr79 : H79.Pr = Fw.P79 := by kernel_rfl
theorem PySem.Challenge.cw_sayagainst_k79_whole_conditions_that_lea_holds : PySem.Challenge.rw_sayagainst_k79_whole_conditions_that_lea.Holds := by
  refine k79_of fun ns hl => ?_
  rw [pr79]
  exact Fw.truth79 ns hl
end
