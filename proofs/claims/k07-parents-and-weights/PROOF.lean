import PyProof.Rows.All
import Wide.All
import OpenK.AllK
import Wide.FinOn
import HandS.ForMost
import HandS.Exc
import HandS.ExcOwn
import HandS.WordsExc
import HandS.TryMany
import HandS.CallSlots
import HandS.Defaults
import HandS.Wide
import HandS.Gcd
import HandS.IsInst
import HandS.ExcIs
import HandS.ExcField
import HandS.ExcInit
import HandS.FStr
import HandS.HotCalls
import HandS.TupAny
import HandS.RevRange
import HandS.HeadHook2
import HandS.HeadEnd
import HandS.Head2
import HandS.Style
import HandS.StrMore
import HandS.Rev
import HandS.RevTup
import HandS.Text
import PyProof.StrOps
import OpenK.KMeth
import OpenK.KWalk
import KE.KExcIs
import KE.GoesEnum
import KE.KExcSuper
import KE.KExcMake
import HandS.ExcSuper
import PyProof.StrLawsRepr
import HandS.Ends
import HandS.Words
import HandS.HeadHook1
import HandS.Head0
import HandS.Head1
import HandS.Head3
import PySem.Challenge.RW_grownfractions_k07_parents_and_weights
set_option linter.all false
set_option Elab.async false
/-! The small language: data, states, terms, what they evaluate to. Plain Lean. -/
namespace GF
abbrev Tx := List Nat
def LN : Nat := 16777216

/-- data: frozen values as trees -/
inductive D where
  | non | bl (b : Bool) | int (i : Int) | str (s : Tx)
  | lst (xs : List D) | tup (xs : List D) | obj (c : Nat) (fs : List D) | scr (xs : List Int)

/-- what a slot holds: data, a cell of the store, the exception that is handled -/
inductive Sl where
  | d (x : D) | ref (j : Nat) | exn (c : Nat) (fs : List D)

mutual
/-- the very same data -/
def sameD : D → D → Bool
  | .non, .non => true
  | .bl a, .bl b => a == b
  | .int i, .int j => i == j
  | .str s, .str t => s == t
  | .lst xs, .lst ys => sameL xs ys
  | .tup xs, .tup ys => sameL xs ys
  | .obj c xs, .obj d ys => c == d && sameL xs ys
  | .scr xs, .scr ys => xs == ys
  | _, _ => false
def sameL : List D → List D → Bool
  | [], [] => true
  | x :: xs, y :: ys => sameD x y && sameL xs ys
  | _, _ => false
end
mutual
theorem sameD_eq : ∀ (x y : D), sameD x y = true → x = y
  | .non, y, h => by cases y <;> first | rfl | (simp [sameD] at h)
  | .bl a, y, h => by cases y <;> first | (simp [sameD] at h; done) | (simp [sameD] at h; rw [h])
  | .int a, y, h => by cases y <;> first | (simp [sameD] at h; done) | (simp [sameD] at h; rw [h])
  | .str a, y, h => by cases y <;> first | (simp [sameD] at h; done) | (simp [sameD] at h; rw [h])
  | .scr a, y, h => by cases y <;> first | (simp [sameD] at h; done) | (simp [sameD] at h; rw [h])
  | .lst xs, .lst ys, h => by rw [sameD] at h; rw [sameL_eq xs ys h]
  | .tup xs, .tup ys, h => by rw [sameD] at h; rw [sameL_eq xs ys h]
  | .obj c xs, .obj d ys, h => by
    rw [sameD, Bool.and_eq_true] at h
    rw [sameL_eq xs ys h.2, show c = d by simpa using h.1]
  | .lst _, .non, h => by simp [sameD] at h
  | .lst _, .bl _, h => by simp [sameD] at h
  | .lst _, .int _, h => by simp [sameD] at h
  | .lst _, .str _, h => by simp [sameD] at h
  | .lst _, .tup _, h => by simp [sameD] at h
  | .lst _, .obj _ _, h => by simp [sameD] at h
  | .lst _, .scr _, h => by simp [sameD] at h
  | .tup _, .non, h => by simp [sameD] at h
  | .tup _, .bl _, h => by simp [sameD] at h
  | .tup _, .int _, h => by simp [sameD] at h
  | .tup _, .str _, h => by simp [sameD] at h
  | .tup _, .lst _, h => by simp [sameD] at h
  | .tup _, .obj _ _, h => by simp [sameD] at h
  | .tup _, .scr _, h => by simp [sameD] at h
  | .obj _ _, .non, h => by simp [sameD] at h
  | .obj _ _, .bl _, h => by simp [sameD] at h
  | .obj _ _, .int _, h => by simp [sameD] at h
  | .obj _ _, .str _, h => by simp [sameD] at h
  | .obj _ _, .lst _, h => by simp [sameD] at h
  | .obj _ _, .tup _, h => by simp [sameD] at h
  | .obj _ _, .scr _, h => by simp [sameD] at h
theorem sameL_eq : ∀ (x y : List D), sameL x y = true → x = y
  | [], [], _ => rfl
  | x :: xs, y :: ys, h => by
    rw [sameL, Bool.and_eq_true] at h
    rw [sameD_eq x y h.1, sameL_eq xs ys h.2]
  | [], _ :: _, h => by simp [sameL] at h
  | _ :: _, [], h => by simp [sameL] at h
end
mutual
theorem sameD_refl : ∀ (x : D), sameD x x = true
  | .non => by rw [sameD]
  | .bl _ => by simp [sameD]
  | .int _ => by simp [sameD]
  | .str _ => by simp [sameD]
  | .scr _ => by simp [sameD]
  | .lst xs => by rw [sameD]; exact sameL_refl xs
  | .tup xs => by rw [sameD]; exact sameL_refl xs
  | .obj c xs => by rw [sameD, sameL_refl xs]; simp
theorem sameL_refl : ∀ (x : List D), sameL x x = true
  | [] => by rw [sameL]
  | x :: xs => by rw [sameL, sameD_refl x, sameL_refl xs]; rfl
end
structure S where
  ρ : List (Option Sl)
  M : List D

inductive R (α : Type) where
  | ok (a : α) (s : S) | exc (c : Nat) (fs : List D) (s : S) | stuck

def R.bind {α β : Type} (r : R α) (f : α → S → R β) : R β := match r with
  | .ok a s => f a s
  | .exc c fs s => .exc c fs s
  | .stuck => .stuck
theorem R.bind_ok {α β : Type} (a : α) (s : S) (f : α → S → R β) : (R.ok a s).bind f = f a s := rfl
theorem R.bind_exc {α β : Type} (c : Nat) (fs : List D) (s : S) (f : α → S → R β) : (R.exc c fs s : R α).bind f = .exc c fs s := rfl
theorem R.bind_stuck {α β : Type} (f : α → S → R β) : (R.stuck : R α).bind f = .stuck := rfl

/-- a callee's answer -/
inductive Rv where
  | d (x : D) | new (xs : List D)
inductive RF where
  | ret (v : Rv) (M : List D) | exc (c : Nat) (fs : List D) (M : List D) | stuck
abbrev FM := List Sl → List D → RF

inductive Flow where
  | next | brk | cont | ret (v : Rv)

/-! ### equality of data -/
def okEq : Nat → D → Bool
  | _, .non => true
  | _, .bl _ => true
  | _, .int _ => true
  | _, .str _ => true
  | n + 1, .lst xs => xs.all (okEq n)
  | n + 1, .tup xs => xs.all (okEq n)
  | _, _ => false
mutual
def eqvD : D → D → Bool
  | .non, .non => true
  | .bl a, .bl b => a == b
  | .bl a, .int j => (if a then 1 else 0) == j
  | .int i, .bl b => i == (if b then 1 else 0)
  | .int i, .int j => i == j
  | .str x, .str y => x == y
  | .lst xs, .lst ys => eqvL xs ys
  | .tup xs, .tup ys => eqvL xs ys
  | _, _ => false
def eqvL : List D → List D → Bool
  | [], [] => true
  | x :: xs, y :: ys => eqvD x y && eqvL xs ys
  | _, _ => false
end

/-! ### operators -/
inductive Bop where
  | add | sub | mul | fdiv | mod | pow
  deriving DecidableEq
def repT (s : Tx) (n : Nat) : Tx := (List.replicate n s).flatten
def binD : Bop → D → D → Option D
  | .add, .int a, .int b => some (.int (a + b))
  | .add, .str a, .str b => if a.length + b.length ≤ LN then some (.str (a ++ b)) else none
  | .add, .tup a, .tup b => if a.length + b.length ≤ LN then some (.tup (a ++ b)) else none
  | .sub, .int a, .int b => some (.int (a - b))
  | .mul, .int a, .int b => if a.natAbs.log2 + b.natAbs.log2 < 1000000 then some (.int (a * b)) else none
  | .mul, .str a, .int n => if a.length * n.toNat ≤ LN ∧ -(2 ^ 63) ≤ n ∧ n < 2 ^ 63 then some (.str (repT a n.toNat)) else none
  | .fdiv, .int a, .int b => if b ≠ 0 ∧ b.natAbs.log2 < 9000 then some (.int (Int.fdiv a b)) else none
  | .mod, .int a, .int b => if b ≠ 0 then some (.int (Int.fmod a b)) else none
  | .pow, .int a, .int b => if 0 ≤ b ∧ b ≤ 1000000 ∧ a.natAbs < 2 ^ 64 then some (.int (a ^ b.toNat)) else none
  | _, _, _ => none
/-- o= on numbers and texts -/
def binA : Bop → D → D → Option D
  | _, .tup _, _ => none
  | o, x, y => binD o x y
inductive Cop where
  | eq | ne | lt | le | gt | ge | isN | notN | inn | notin
  deriving DecidableEq
def flatD : D → Bool
  | .non => true
  | .bl _ => true
  | .int _ => true
  | .str _ => true
  | _ => false
def seqD : D → Option (List D)
  | .lst xs => some xs
  | .tup xs => some xs
  | _ => none
/-- one text in another -/
def subT (a b : Tx) : Bool := (List.range (b.length + 1)).any fun i => (b.drop i).take a.length == a
def inD (a b : D) : Option Bool := match b with
  | .str t => match a with
    | .str [c] => some (t.contains c)
    | _ => none
  | _ => match seqD b with
    | some xs => if flatD a && xs.all flatD then some (xs.any fun x => eqvD x a) else none
    | none => none
def cmpD : Cop → D → D → Option Bool
  | .eq, a, b => if okEq 60 a && okEq 60 b then some (eqvD a b) else none
  | .ne, a, b => if okEq 60 a && okEq 60 b then some (!eqvD a b) else none
  | .lt, .int a, .int b => some (decide (a < b))
  | .le, .int a, .int b => some (decide (a ≤ b))
  | .gt, .int a, .int b => some (decide (b < a))
  | .ge, .int a, .int b => some (decide (b ≤ a))
  | .inn, a, b => inD a b
  | .notin, a, b => (inD a b).map (!·)
  | _, _, _ => none

/-! ### places -/
def ixN (n : Nat) (i : Int) : Option Nat := if 0 ≤ i then (if i < n then some i.toNat else none) else if -(n : Int) ≤ i then some (i + n).toNat else none
def atI {α : Type} (xs : List α) (i : Int) : Option α := (ixN xs.length i).bind fun j => xs[j]?
def sIx (n d : Nat) : Option Int → Nat
  | none => d
  | some i => if i < 0 then (max (i + (n : Int)) 0).toNat else (min i (n : Int)).toNat
def cut {α : Type} (xs : List α) (lo hi : Option Int) : List α := (xs.drop (sIx xs.length 0 lo)).take (sIx xs.length xs.length hi - sIx xs.length 0 lo)

def S.get (s : S) (i : Nat) : Option Sl := match s.ρ[i]? with
  | some (some v) => some v
  | _ => none
def S.put (s : S) (i : Nat) (v : Sl) : S := ⟨s.ρ.set i (some v), s.M⟩
/-- the items of a list or tuple, read -/
def seqS (M : List D) : Sl → Option (List D)
  | .d (.lst xs) => some xs
  | .d (.tup xs) => some xs
  | .d (.scr xs) => some (xs.map .int)
  | .ref j => match M[j]? with
    | some (.lst xs) => some xs
    | _ => none
  | _ => none
/-- the items of a list -/
def lstS (M : List D) : Sl → Option (List D)
  | .d (.lst xs) => some xs
  | .d (.scr xs) => some (xs.map .int)
  | .ref j => match M[j]? with
    | some (.lst xs) => some xs
    | _ => none
  | _ => none
def ixS (M : List D) (a : Sl) (i : Int) : Option D := match a with
  | .d (.str t) => (atI t i).map fun c => .str [c]
  | a => (seqS M a).bind fun xs => atI xs i
/-- what a for walks: items now -/
def itemsS (M : List D) : Sl → Option (List D)
  | .d (.str t) => some (t.map fun c => .str [c])
  | .d (.lst xs) => some xs
  | .d (.tup xs) => some xs
  | .d (.scr xs) => some (xs.map .int)
  | _ => none

/-! ### built-ins -/
inductive Blt where
  | len | int | abs | min2 | max2 | sum | minl | maxl | tuple | str | all | any | gcd | bool
  deriving DecidableEq
def intsD : List D → Option (List Int)
  | [] => some []
  | .int i :: r => (intsD r).map (i :: ·)
  | _ :: _ => none
def blsD : List D → Option (List Bool)
  | [] => some []
  | .bl b :: r => (blsD r).map (b :: ·)
  | _ :: _ => none
def minL : List Int → Int
  | [] => 0
  | [a] => a
  | a :: r => let m := minL r; if m < a then m else a
def maxL : List Int → Int
  | [] => 0
  | [a] => a
  | a :: r => let m := maxL r; if a < m then m else a
/-- decimal digits -/
def decT (i : Int) : Tx := (toString i).toList.map Char.toNat
def bltS (M : List D) : Blt → List Sl → Option D
  | .len, [.d (.str t)] => some (.int t.length)
  | .len, [a] => (seqS M a).map fun xs => .int xs.length
  | .int, [.d (.int i)] => some (.int i)
  | .int, [.d (.bl b)] => some (.int (if b then 1 else 0))
  | .bool, [.d (.int i)] => some (.bl (i != 0))
  | .bool, [.d (.bl b)] => some (.bl b)
  | .abs, [.d (.int i)] => some (.int (if i < 0 then -i else i))
  | .min2, [.d (.int i), .d (.int j)] => some (.int (if j < i then j else i))
  | .max2, [.d (.int i), .d (.int j)] => some (.int (if j > i then j else i))
  | .gcd, [.d (.int i), .d (.int j)] => some (.int ((Nat.gcd i.natAbs j.natAbs : Nat) : Int))
  | .sum, [a] => (seqS M a).bind fun xs => (intsD xs).map fun ns => .int ns.sum
  | .minl, [a] => (lstS M a).bind fun xs => (intsD xs).bind fun ns => if ns.length = 0 then none else some (.int (minL ns))
  | .maxl, [a] => (lstS M a).bind fun xs => (intsD xs).bind fun ns => if ns.length = 0 then none else some (.int (maxL ns))
  | .tuple, [a] => (seqS M a).map fun xs => .tup xs
  | .str, [.d (.int i)] => if i.natAbs.log2 < 1920 then some (.str (decT i)) else none
  | .all, [.d (.lst xs)] => (blsD xs).map fun bs => .bl (bs.all id)
  | .any, [.d (.lst xs)] => (blsD xs).map fun bs => .bl (bs.any id)
  | _, _ => none
/-- isinstance's second argument -/
inductive Ty where
  | int | bool | str | list | tuple | cls (c : Nat)
  deriving DecidableEq
/-- methods of the built-in types that change nothing -/
inductive Bm where
  | join | startswith | endswith | rstrip1 | lstrip1 | partition
  deriving DecidableEq
def joinT : Tx → List Tx → Tx
  | _, [] => []
  | _, [x] => x
  | sep, x :: y :: r => x ++ sep ++ joinT sep (y :: r)
/-- the signs of cs at the end are dropped -/
def rstripT (t cs : Tx) : Tx := t.take (t.length - (t.reverse.takeWhile fun c => cs.contains c).length)
def strsD : List D → Option (List Tx)
  | [] => some []
  | .str t :: r => (strsD r).map (t :: ·)
  | _ :: _ => none
def bmS (M : List D) : Bm → Sl → List Sl → Option D
  | .join, .d (.str sep), [a] => (seqS M a).bind fun xs => (strsD xs).bind fun ts => if (joinT sep ts).length + sep.length ≤ LN then some (.str (joinT sep ts)) else none
  | .rstrip1, .d (.str t), [.d (.str cs)] => some (.str (rstripT t cs))
  | _, _, _ => none
/-- methods that change a list -/
inductive Mu where
  | append | pop0 | popl | extend
  deriving DecidableEq
def muS : Mu → List D → List Sl → Option (D × List D)
  | .append, xs, [.d v] => if xs.length < LN then some (.non, xs ++ [v]) else none
  | .pop0, x :: xs, [.d (.int 0)] => some (x, xs)
  | .popl, xs, [] => (xs[xs.length - 1]?).map fun x => (x, xs.dropLast)
  | .extend, xs, [.d (.lst ys)] => if xs.length + ys.length ≤ LN then some (.non, xs ++ ys) else none
  | _, _, _ => none

/-! ### terms -/
mutual
inductive E where
  | var (i : Nat)
  | cst (d : D)
  | glo (i : Nat)
  | bin (o : Bop) (a b : E)
  | neg (a : E)
  | cmp (o : Cop) (a b : E)
  | cmp2 (o1 o2 : Cop) (a b c : E)
  | vand (a b : E) | vor (a b : E) | vnot (a : E) | one (a : E)
  | ife (t : T) (a b : E)
  | ix (a i : E)
  | sl (a : E) (lo hi : P)
  | tup (as : As)
  | frz (n : N)
  | call (f : Nat) (as : As)
  | callK (p : Nat) (as bs : As)
  | blt (b : Blt) (as : As)
  | bm (m : Bm) (o : E) (as : As)
  | mut (m : Mu) (i : Nat) (as : As)
  | isi (a : E) (t : Ty)
  | efld (a : E) (c f : Nat)
  | rev (a : E)
  | fld (a : E) (x : String)
  | meth (a : E) (m : String) (ks : List String) (as bs : As)
  | make (c : Nat) (ks : List String) (as bs : As)
  | ob (o : Bop) (a b : E)
  | oneg (a : E)
  | oeq (a b : E)
inductive T where
  | val (e : E) | tru (e : E) | cmp (o : Cop) (a b : E) | cmp2 (o1 o2 : Cop) (a b c : E) | tand (a b : T) | tor (a b : T) | tnot (a : T) | one (a : T)
inductive N where
  | disp (as : As) | cat (a b : N) | catE (a : E) (b : N) | catF (a : N) (b : E) | rep (a : N) (n : E) | comp (i : Nat) (it : It) (t : T) (e : E) | comp0 (i : Nat) (it : It) (e : E)
  | compC (i src : Nat) (e : E)
  | ofSeq (e : E) | cut (e : E) (lo hi : P) | call (f : Nat) (as : As) | rev (a : E) | odd (a : E)
inductive P where
  | none | some (e : E)
inductive It where
  | seq (e : E) | new (n : N) | rng1 (a : E) | rng2 (a b : E) | rng3 (a b c : E) | revS (a : E) | revL (a : E)
inductive As where
  | nil | cons (e : E) (as : As)
end

/-- module constants, classes -/
structure ClsI where
  name : String
  exc : Bool := false
  flds : List String := []
  sup : List Nat := []
/-- a call with keywords or defaults: the function, how many values stand by place, the keywords' names, the defaults that fill up, where each parameter's value is found among all these -/
structure Pat where
  f : Nat
  n : Nat
  ks : List String
  dfl : List D
  perm : List Nat
def permute {α : Type} (perm : List Nat) (xs : List α) : List α := perm.filterMap fun i => xs[i]?
structure Tb where
  consts : List D := []
  cls : List ClsI := []
  pats : List Pat := []
  mpats : List (Nat × String × Nat) := []
def posOf (x : String) : List String → Option Nat
  | [] => none
  | y :: r => if y = x then some 0 else (posOf x r).map (· + 1)
/-- where an instance's field lies -/
def Tb.fix (tb : Tb) (c : Nat) (x : String) : Option Nat := (tb.cls[c]?).bind fun i => if i.exc = true then none else posOf x i.flds
def Tb.mIs (tb : Tb) (c : Nat) (m : String) (n : Nat) (ks : List String) (z : Nat × String × Nat) : Bool := decide (z.1 = c) && (decide (z.2.1 = m) && (match tb.pats[z.2.2]? with
  | some q => decide (q.n = n + 1) && decide (q.ks = ks)
  | none => false))
/-- a class's method, as it is called with so many values and these keywords -/
def Tb.mq (tb : Tb) (c : Nat) (m : String) (n : Nat) (ks : List String) : Option Pat := (tb.mpats.find? (tb.mIs c m n ks)).bind fun z => tb.pats[z.2.2]?
def Tb.isSub (tb : Tb) (c k : Nat) : Bool := c == k || ((tb.cls[c]?).map fun i => i.sup.contains k).getD false
def Tb.isExc (tb : Tb) (c : Nat) : Bool := ((tb.cls[c]?).map (·.exc)).getD false

/-- a value's kind -/
inductive Tag where
  | non | bool | int | str | list | tuple | cls (c : Nat)
  deriving DecidableEq
def isTag (tb : Tb) : Tag → Ty → Bool
  | .bool, .int => true
  | .bool, .bool => true
  | .int, .int => true
  | .str, .str => true
  | .list, .list => true
  | .tuple, .tuple => true
  | .cls c, .cls k => tb.isSub c k
  | _, _ => false
def tagS : Sl → Option Tag
  | .d .non => some .non
  | .d (.bl _) => some .bool
  | .d (.int _) => some .int
  | .d (.str _) => some .str
  | .d (.lst _) => some .list
  | .d (.tup _) => some .tuple
  | .d (.obj c _) => some (.cls c)
  | .d (.scr _) => none
  | .ref _ => some .list
  | .exn c _ => some (.cls c)
def isiS (tb : Tb) (M : List D) (x : Sl) (t : Ty) : Option Bool := match x with
  | .d (.obj c _) => if c < tb.cls.length ∧ tb.isExc c = false then some (isTag tb (.cls c) t) else none
  | .exn c _ => if c < tb.cls.length ∧ tb.isExc c = true then some (isTag tb (.cls c) t) else none
  | .ref j => (match M[j]? with
    | some (.lst _) => some (isTag tb .list t)
    | _ => none)
  | x => (tagS x).map fun g => isTag tb g t

/-! ### calls -/
def refsOf : List Sl → List Nat
  | [] => []
  | .ref j :: r => j :: refsOf r
  | _ :: r => refsOf r
def renum : Nat → List Sl → List Sl
  | _, [] => []
  | n, .ref _ :: r => .ref n :: renum (n + 1) r
  | n, v :: r => v :: renum n r
def getAll (M : List D) : List Nat → Option (List D)
  | [] => some []
  | j :: r => match M[j]?, getAll M r with
    | some m, some ms => some (m :: ms)
    | _, _ => none
def setAll : List D → List Nat → List D → List D
  | M, j :: r, m :: ms => setAll (M.set j m) r ms
  | M, _, _ => M
def noExn : List Sl → Bool
  | [] => true
  | .exn _ _ :: _ => false
  | _ :: r => noExn r
def callF (φ : FM) (as : List Sl) (s : S) : R Rv := match getAll s.M (refsOf as) with
  | none => .stuck
  | some ms => if (refsOf as).Nodup ∧ noExn as = true then (match φ (renum 0 as) ms with
    | .ret v ms' => .ok v ⟨s.ρ, setAll s.M (refsOf as) ms'⟩
    | .exc c fs ms' => .exc c fs ⟨s.ρ, setAll s.M (refsOf as) ms'⟩
    | .stuck => .stuck) else .stuck
def rvSl : Rv → Sl
  | .d x => .d x
  | .new xs => .d (.lst xs)
def rvNew : Rv → Option (List D)
  | .new xs => some xs
  | _ => none

/-- an instance: its class and fields -/
def objS (M : List D) : Sl → Option (Nat × List D)
  | .d (.obj c fs) => some (c, fs)
  | .ref j => match M[j]? with
    | some (.obj c fs) => some (c, fs)
    | _ => none
  | _ => none
/-- a new instance: __init__ runs on a cell of its own, which is frozen then -/
def makeF (tb : Tb) (φ : FM) (c : Nat) (g : Sl → List Sl) (s : S) : R Sl := match callF φ (g (.ref s.M.length)) ⟨s.ρ, s.M ++ [.obj c []]⟩ with
  | .ok (.d .non) s' => (match s'.M[s.M.length]?, tb.cls[c]? with
    | some (.obj c' fs), some i => if c' = c ∧ i.exc = false ∧ fs.length = i.flds.length then .ok (.d (.obj c fs)) ⟨s.ρ, s'.M.take s.M.length⟩ else .stuck
    | _, _ => .stuck)
  | .exc k fs s' => .exc k fs ⟨s.ρ, s'.M.take s.M.length⟩
  | _ => .stuck
def bopM : Bop → String
  | .add => "__add__"
  | .sub => "__sub__"
  | .mul => "__mul__"
  | _ => ""
def lenA : As → Nat
  | .nil => 0
  | .cons _ as => lenA as + 1

def optR {α β : Type} (o : Option α) (s : S) (f : α → β) : R β := match o with
  | some a => .ok (f a) s
  | none => .stuck
def intSl : Sl → Option Int
  | .d (.int i) => some i
  | _ => none
def blSl : Sl → Option Bool
  | .d (.bl b) => some b
  | _ => none
/-- truth of any value -/
def truS (M : List D) : Sl → Option Bool
  | .d .non => some false
  | .d (.bl b) => some b
  | .d (.int i) => some (i != 0)
  | .d (.str t) => some (t.length != 0)
  | a => (seqS M a).map fun xs => !xs.isEmpty
def datas : List Sl → Option (List D)
  | [] => some []
  | .d x :: r => (datas r).map (x :: ·)
  | _ :: _ => none
def cmpS : Cop → Sl → Sl → Option Bool
  | .isN, .d x, .d .non => some (match x with | .non => true | _ => false)
  | .notN, .d x, .d .non => some (match x with | .non => false | _ => true)
  | .isN, .d (.bl a), .d (.bl b) => some (decide (a = b))
  | .notN, .d (.bl a), .d (.bl b) => some (!decide (a = b))
  | o, .d x, .d y => cmpD o x y
  | _, _, _ => none
def rangeL (lo hi : Int) : List D := (List.range (hi - lo).toNat).map fun (k : Nat) => D.int (lo + (k : Int))
/-- the number of turns of a range with a step -/
def rangeLen (a b c : Int) : Nat := if 0 < c then (if a < b then ((b - a - 1) / c + 1).toNat else 0) else (if b < a then ((a - b - 1) / (-c) + 1).toNat else 0)
def rangeL3 (a b c : Int) : List D := (List.range (rangeLen a b c)).map fun (k : Nat) => D.int (a + (k : Int) * c)
def smallI (i : Int) : Prop := -(2 ^ 62) ≤ i ∧ i < 2 ^ 62
instance (i : Int) : Decidable (smallI i) := inferInstanceAs (Decidable (_ ∧ _))

/-- the items at odd places -/
def odds {α : Type} : List α → List α
  | _ :: b :: r => b :: odds r
  | _ => []
/-- a text, a tuple from the end -/
def revD : Sl → Option D
  | .d (.str t) => some (.str t.reverse)
  | .d (.tup xs) => some (.tup xs.reverse)
  | _ => none
def revT : Sl → Option (List D)
  | .d (.str t) => some (t.reverse.map fun c => .str [c])
  | _ => none
def revI : Sl → Option (List D)
  | .d (.lst xs) => some xs.reverse
  | .d (.tup xs) => some xs.reverse
  | .d (.scr xs) => some (xs.reverse.map .int)
  | _ => none
/-- a comprehension's turns: acc so far -/
def compGo (t : S → R Bool) (e : S → R Sl) (i : Nat) (σ0 : List (Option Sl)) : List D → List D → S → R (List D)
  | [], acc, s => .ok acc ⟨σ0, s.M⟩
  | x :: xs, acc, s => match t ⟨σ0.set i (some (.d x)), s.M⟩ with
    | .ok true s1 => (match e s1 with
      | .ok (.d y) s2 => if acc.length < LN then compGo t e i σ0 xs (acc ++ [y]) s2 else .stuck
      | _ => .stuck)
    | .ok false s1 => compGo t e i σ0 xs acc s1
    | _ => .stuck
/-- the cell at j is as it was -/
def keeps (j : Nat) (all : List D) (M : List D) : Bool := match M[j]? with
  | some (.lst ys) => sameL ys all
  | _ => false
/-- a comprehension over a cell that stays as it is -/
def compGoC (e : S → R Sl) (i j : Nat) (all : List D) (σ0 : List (Option Sl)) : List D → List D → S → R (List D)
  | [], acc, s => if keeps j all s.M = true then .ok acc ⟨σ0, s.M⟩ else .stuck
  | x :: xs, acc, s => if keeps j all s.M = true then (match e ⟨σ0.set i (some (.d x)), s.M⟩ with
    | .ok (.d y) s2 => if acc.length < LN then compGoC e i j all σ0 xs (acc ++ [y]) s2 else .stuck
    | _ => .stuck) else .stuck

section
variable (tb : Tb) (Φ : Nat → FM)
mutual
def evE : E → S → R Sl
  | .var i, s => optR (s.get i) s id
  | .cst d, s => .ok (.d d) s
  | .glo i, s => optR tb.consts[i]? s .d
  | .bin o a b, s => (evE a s).bind fun x s => (evE b s).bind fun y s => (match x, y with
    | .d x, .d y => optR (binD o x y) s .d
    | _, _ => .stuck)
  | .neg a, s => (evE a s).bind fun x s => optR (intSl x) s fun i => .d (.int (-i))
  | .cmp o a b, s => (evE a s).bind fun x s => (evE b s).bind fun y s => optR (cmpS o x y) s fun c => .d (.bl c)
  | .cmp2 o1 o2 a b c, s => (evE a s).bind fun x s => (evE b s).bind fun y s => (match cmpS o1 x y with
    | some true => (evE c s).bind fun z s => optR (cmpS o2 y z) s fun c => .d (.bl c)
    | some false => .ok (.d (.bl false)) s
    | none => .stuck)
  | .vand a b, s => (evE a s).bind fun x s => (match blSl x with
    | some true => evE b s
    | some false => .ok (.d (.bl false)) s
    | none => .stuck)
  | .vor a b, s => (evE a s).bind fun x s => (match blSl x with
    | some true => .ok (.d (.bl true)) s
    | some false => evE b s
    | none => .stuck)
  | .vnot a, s => (evE a s).bind fun x s => optR (blSl x) s fun b => .d (.bl !b)
  | .one a, s => evE a s
  | .ife t a b, s => (evT t s).bind fun c s => (match c with
    | true => evE a s
    | false => evE b s)
  | .ix a i, s => (evE a s).bind fun x s => (evE i s).bind fun y s => (match intSl y with
    | some i => optR (ixS s.M x i) s .d
    | none => .stuck)
  | .sl a lo hi, s => (evE a s).bind fun x s => (evP lo s).bind fun l s => (evP hi s).bind fun h s => (match x with
    | .d (.str t) => .ok (.d (.str (cut t l h))) s
    | .d (.tup xs) => .ok (.d (.tup (cut xs l h))) s
    | _ => .stuck)
  | .tup as, s => (evA as s).bind fun vs s => optR (datas vs) s fun ds => .d (.tup ds)
  | .frz n, s => (evN n s).bind fun ds s => .ok (.d (.lst ds)) s
  | .call f as, s => (evA as s).bind fun vs s => (callF (Φ f) vs s).bind fun v s => .ok (rvSl v) s
  | .callK p as bs, s => (evA as s).bind fun vs s => (evA bs s).bind fun ws s => (match tb.pats[p]? with
    | some q => (callF (Φ q.f) (permute q.perm (vs ++ (ws ++ q.dfl.map .d))) s).bind fun v s => .ok (rvSl v) s
    | none => .stuck)
  | .blt b as, s => (evA as s).bind fun vs s => optR (bltS s.M b vs) s .d
  | .bm m o as, s => (evE o s).bind fun x s => (match x with
    | .d (.str t) => (evA as s).bind fun vs s => optR (bmS s.M m (.d (.str t)) vs) s .d
    | _ => .stuck)
  | .mut m i as, s => (match s.get i with
    | some (.ref j) => (match s.M[j]? with
      | some (.lst _) => (evA as s).bind fun vs s => (match s.M[j]? with
        | some (.lst xs) => (match muS m xs vs with
          | some (v, ys) => .ok (.d v) ⟨s.ρ, s.M.set j (.lst ys)⟩
          | none => .stuck)
        | _ => .stuck)
      | _ => .stuck)
    | _ => .stuck)
  | .isi a t, s => (evE a s).bind fun x s => optR (isiS tb s.M x t) s fun b => .d (.bl b)
  | .efld a k f, s => (evE a s).bind fun x s => (match x with
    | .exn c fs => if c = k then optR fs[f]? s .d else .stuck
    | _ => .stuck)
  | .rev a, s => (evE a s).bind fun x s => optR (revD x) s .d
  | .fld a x, s => (evE a s).bind fun v s => (match objS s.M v with
    | some (c, fs) => optR ((tb.fix c x).bind fun i => fs[i]?) s .d
    | none => .stuck)
  | .meth a m ks as bs, s => (evE a s).bind fun x s => (match objS s.M x with
    | some (c, _) => (match tb.mq c m (lenA as) ks with
      | some q => (evA as s).bind fun vs s => (evA bs s).bind fun ws s => (callF (Φ q.f) (permute q.perm (x :: (vs ++ (ws ++ q.dfl.map .d)))) s).bind fun v s => .ok (rvSl v) s
      | none => .stuck)
    | none => .stuck)
  | .make c ks as bs, s => (match tb.mq c "__init__" (lenA as) ks with
    | some q => (evA as s).bind fun vs s => (evA bs s).bind fun ws s => makeF tb (Φ q.f) c (fun z => permute q.perm (z :: (vs ++ (ws ++ q.dfl.map .d)))) s
    | none => .stuck)
  | .ob o a b, s => (evE a s).bind fun x s => (evE b s).bind fun y s => (match x, y with
    | .d (.obj c fs), .d (.obj c' gs) => (match tb.mq c (bopM o) 1 [] with
      | some q => if c = c' then (callF (Φ q.f) (permute q.perm (.d (.obj c fs) :: .d (.obj c' gs) :: q.dfl.map .d)) s).bind fun v s => .ok (rvSl v) s else .stuck
      | none => .stuck)
    | _, _ => .stuck)
  | .oneg a, s => (evE a s).bind fun x s => (match x with
    | .d (.obj c fs) => (match tb.mq c "__neg__" 0 [] with
      | some q => (callF (Φ q.f) (permute q.perm (.d (.obj c fs) :: q.dfl.map .d)) s).bind fun v s => .ok (rvSl v) s
      | none => .stuck)
    | _ => .stuck)
  | .oeq a b, s => (evE a s).bind fun x s => (evE b s).bind fun y s => (match x, y with
    | .d (.obj c fs), .d (.obj c' gs) => (match tb.mq c "__eq__" 1 [] with
      | some q => if c' < tb.cls.length ∧ tb.isExc c' = false then (callF (Φ q.f) (permute q.perm (.d (.obj c fs) :: .d (.obj c' gs) :: q.dfl.map .d)) s).bind fun v s => .ok (rvSl v) s else .stuck
      | none => .stuck)
    | _, _ => .stuck)
def evT : T → S → R Bool
  | .val e, s => (evE e s).bind fun x s => optR (blSl x) s id
  | .tru e, s => (evE e s).bind fun x s => optR (truS s.M x) s id
  | .cmp o a b, s => (evE a s).bind fun x s => (evE b s).bind fun y s => optR (cmpS o x y) s id
  | .cmp2 o1 o2 a b c, s => (evE a s).bind fun x s => (evE b s).bind fun y s => (match cmpS o1 x y with
    | some true => (evE c s).bind fun z s => optR (cmpS o2 y z) s id
    | some false => .ok false s
    | none => .stuck)
  | .tand a b, s => (evT a s).bind fun c s => (match c with
    | true => evT b s
    | false => .ok false s)
  | .tor a b, s => (evT a s).bind fun c s => (match c with
    | true => .ok true s
    | false => evT b s)
  | .tnot a, s => (evT a s).bind fun c s => .ok (!c) s
  | .one a, s => evT a s
def evN : N → S → R (List D)
  | .disp as, s => (evA as s).bind fun vs s => optR (datas vs) s id
  | .cat a b, s => (evN a s).bind fun xs s => (evN b s).bind fun ys s => if xs.length + ys.length ≤ LN then .ok (xs ++ ys) s else .stuck
  | .catE a b, s => (evE a s).bind fun x s => (evN b s).bind fun ys s => (match x with
    | .d (.lst xs) => if xs.length + ys.length ≤ LN then .ok (xs ++ ys) s else .stuck
    | .ref j => (match s.M[j]? with
      | some (.lst xs) => if xs.length + ys.length ≤ LN then .ok (xs ++ ys) s else .stuck
      | _ => .stuck)
    | _ => .stuck)
  | .catF a b, s => (evN a s).bind fun xs s => (evE b s).bind fun y s => (match y with
    | .d (.lst ys) => if xs.length + ys.length ≤ LN then .ok (xs ++ ys) s else .stuck
    | .ref j => (match s.M[j]? with
      | some (.lst ys) => if xs.length + ys.length ≤ LN then .ok (xs ++ ys) s else .stuck
      | _ => .stuck)
    | _ => .stuck)
  | .rep a n, s => (evN a s).bind fun xs s => (evE n s).bind fun y s => (match intSl y with
    | some k => if -(2 ^ 63) ≤ k ∧ k < 2 ^ 63 ∧ xs.length * k.toNat ≤ LN then .ok (List.replicate k.toNat xs).flatten s else .stuck
    | none => .stuck)
  | .comp i it t e, s => (evI it s).bind fun xs s => if i < s.ρ.length then compGo (evT t) (evE e) i (s.ρ.set i none) xs [] s else .stuck
  | .comp0 i it e, s => (evI it s).bind fun xs s => if i < s.ρ.length then compGo (fun s => .ok true s) (evE e) i (s.ρ.set i none) xs [] s else .stuck
  | .compC i src e, s => (match s.get src with
    | some (.ref j) => (match s.M[j]? with
      | some (.lst xs) => if i < s.ρ.length then compGoC (evE e) i j xs (s.ρ.set i none) xs [] s else .stuck
      | _ => .stuck)
    | _ => .stuck)
  | .ofSeq e, s => (evE e s).bind fun x s => optR (seqS s.M x) s id
  | .cut e lo hi, s => (evE e s).bind fun x s => (evP lo s).bind fun l s => (evP hi s).bind fun h s => (match x with
    | .d (.lst xs) => .ok (cut xs l h) s
    | .d (.scr xs) => .ok (cut (xs.map .int) l h) s
    | .ref j => (match s.M[j]? with
      | some (.lst xs) => .ok (cut xs l h) s
      | _ => .stuck)
    | _ => .stuck)
  | .call f as, s => (evA as s).bind fun vs s => (callF (Φ f) vs s).bind fun v s => optR (rvNew v) s id
  | .rev a, s => (evE a s).bind fun x s => optR ((lstS s.M x).map List.reverse) s id
  | .odd a, s => (evE a s).bind fun x s => optR ((lstS s.M x).map odds) s id
def evP : P → S → R (Option Int)
  | .none, s => .ok Option.none s
  | .some e, s => (evE e s).bind fun x s => optR (intSl x) s Option.some
def evI : It → S → R (List D)
  | .seq e, s => (evE e s).bind fun x s => optR (itemsS s.M x) s id
  | .new n, s => evN n s
  | .rng1 a, s => (evE a s).bind fun x s => (match intSl x with
    | some i => if smallI i then .ok (rangeL 0 i) s else .stuck
    | none => .stuck)
  | .rng2 a b, s => (evE a s).bind fun x s => (evE b s).bind fun y s => (match intSl x, intSl y with
    | some i, some j => if smallI i ∧ smallI j then .ok (rangeL i j) s else .stuck
    | _, _ => .stuck)
  | .rng3 a b c, s => (evE a s).bind fun x s => (evE b s).bind fun y s => (evE c s).bind fun z s => (match intSl x, intSl y, intSl z with
    | some i, some j, some k => if smallI i ∧ smallI j ∧ k ≠ 0 ∧ k.natAbs < 1073741824 then .ok (rangeL3 i j k) s else .stuck
    | _, _, _ => .stuck)
  | .revS a, s => (evE a s).bind fun x s => optR (revT x) s id
  | .revL a, s => (evE a s).bind fun x s => optR (revI x) s id
def evA : As → S → R (List Sl)
  | .nil, s => .ok [] s
  | .cons e as, s => (evE e s).bind fun x s => (evA as s).bind fun xs s => .ok (x :: xs) s
end
end

/-! ### statements -/
inductive G where
  | frz (i : Nat) | forget (is : List Nat)
mutual
inductive St where
  | set (i : Nat) (e : E)
  | setN (i : Nat) (n : N)
  | setR (i : Nat) (n : N)
  | setsub (i : Nat) (x e : E)
  | setfld (i : Nat) (x : String) (e : E)
  | augsub (i : Nat) (x : E) (o : Bop) (e : E)
  | aug (i : Nat) (o : Bop) (e : E)
  | unp (is : List Nat) (e : E)
  | par2 (i j : Nat) (a b : E)
  | par3 (i j l : Nat) (a b d : E)
  | ex (e : E)
  | ret (e : E) | retN (n : N) | retC (i : Nat) | ret0
  | ifs (t : T) (a b : Bl)
  | for1 (i : Nat) (it : It) (fg : List Nat) (b : Bl)
  | forD (i : Nat) (as : As) (fg : List Nat) (b : Bl)
  | forE (i j : Nat) (e : E) (fg : List Nat) (b : Bl)
  | forC (i src : Nat) (n : Nat) (fg : List Nat) (b : Bl)
  | whl (n : Nat) (t : T) (fg : List Nat) (b : Bl)
  | brk | cont | pass
  | rai (c : Nat) (as : As)
  | tryS (b : Bl) (hs : Hs)
inductive Bl where
  | nil | cons (s : St) (b : Bl) | gh (g : G) (b : Bl)
inductive Hs where
  | nil | cons (c : Nat) (i : Option Nat) (b : Bl) (hs : Hs)
end

def forget : List Nat → List (Option Sl) → List (Option Sl)
  | [], ρ => ρ
  | i :: is, ρ => forget is (ρ.set i none)
/-- the slots at is forgotten, the store cut back to n -/
def clean (is : List Nat) (n : Nat) (s : S) : S := ⟨forget is s.ρ, s.M.take n⟩
def belowS (n : Nat) : List (Option Sl) → Bool
  | [] => true
  | some (.ref j) :: r => decide (j < n) && belowS n r
  | _ :: r => belowS n r
def noRef (j : Nat) : List (Option Sl) → Bool
  | [] => true
  | some (.ref k) :: r => decide (k ≠ j) && noRef j r
  | _ :: r => noRef j r
def noEx : List (Option Sl) → Bool
  | [] => true
  | some (.exn _ _) :: _ => false
  | _ :: r => noEx r
/-- the end of a turn -/
def turn (fg : List Nat) (n : Nat) (r : R Flow) (k : S → R Flow) : R Flow := match r with
  | .ok .next s2 => if n ≤ s2.M.length ∧ belowS n (forget fg s2.ρ) = true then k (clean fg n s2) else .stuck
  | .ok .cont s2 => if n ≤ s2.M.length ∧ belowS n (forget fg s2.ρ) = true then k (clean fg n s2) else .stuck
  | .ok .brk s2 => if n ≤ s2.M.length ∧ belowS n (forget fg s2.ρ) = true then .ok .next (clean fg n s2) else .stuck
  | .ok (.ret v) s2 => .ok (.ret v) s2
  | .exc c fs s2 => .exc c fs s2
  | .stuck => .stuck
/-- one turn behind another -/
def forGo (bind : Sl → S → R Unit) (body : S → R Flow) (fg : List Nat) (n : Nat) : List Sl → S → R Flow
  | [], s => .ok .next s
  | x :: xs, s => (bind x s).bind fun _ s1 => turn fg n (body s1) (forGo bind body fg n xs)
/-- over the cell at j as it stands -/
def liveGo (bind : Sl → S → R Unit) (body : S → R Flow) (fg : List Nat) (n j : Nat) : Nat → Nat → S → R Flow
  | 0, _, _ => .stuck
  | m + 1, k, s => match s.M[j]? with
    | some (.lst xs) => (match xs[k]? with
      | none => .ok .next s
      | some x => (bind (.d x) s).bind fun _ s1 => turn fg n (body s1) (liveGo bind body fg n j m (k + 1)))
    | _ => .stuck
def whileGo (t : S → R Bool) (body : S → R Flow) (fg : List Nat) (n : Nat) : Nat → S → R Flow
  | 0, _ => .stuck
  | m + 1, s => (t s).bind fun c s1 => match c with
    | false => .ok .next s1
    | true => turn fg n (body s1) (whileGo t body fg n m)
def setOne (i : Nat) (x : Sl) (s : S) : R Unit := match x with
  | .exn _ _ => .stuck
  | x => if i < s.ρ.length then .ok () (s.put i x) else .stuck
def setTwo (i j : Nat) (x : Sl) (s : S) : R Unit := match x with
  | .d (.tup [a, b]) => if i < s.ρ.length ∧ j < s.ρ.length then .ok () ((s.put i (.d a)).put j (.d b)) else .stuck
  | _ => .stuck
def enumL : Nat → List D → List D
  | _, [] => []
  | n, x :: xs => .tup [.int n, x] :: enumL (n + 1) xs
def putMany : List Nat → List D → S → Option S
  | [], [], s => some s
  | i :: is, x :: xs, s => if i < s.ρ.length then putMany is xs (s.put i (.d x)) else none
  | _, _, _ => none
/-- what an exception is made with -/
def raiOk : List D → Bool
  | [] => true
  | [.int i] => decide (i.natAbs.log2 < 1900)
  | [.str t] => decide (t.length ≤ 100000)
  | _ => false

section
variable (tb : Tb) (Φ : Nat → FM)
def ghost (b0 : Nat) : G → S → R Unit
  | .frz i, s => match s.get i with
    | some (.ref j) => (match s.M[j]? with
      | some (.lst xs) => if b0 ≤ j ∧ j + 1 = s.M.length ∧ belowS j (s.ρ.set i none) = true then .ok () ⟨s.ρ.set i (some (.d (.lst xs))), s.M.take j⟩ else .stuck
      | _ => .stuck)
    | _ => .stuck
  | .forget is, s => .ok () ⟨forget is s.ρ, s.M⟩
mutual
def evS : Nat → St → S → R Flow
  | b0, .set i e, s => (evE tb Φ e s).bind fun v s => (match v with
    | .d x => if i < s.ρ.length then .ok .next (s.put i (.d x)) else .stuck
    | _ => .stuck)
  | b0, .setN i n, s => (evN tb Φ n s).bind fun ds s => if i < s.ρ.length then .ok .next ⟨s.ρ.set i (some (.ref s.M.length)), s.M ++ [.lst ds]⟩ else .stuck
  | b0, .setR i n, s => (evN tb Φ n s).bind fun ds s => (match s.get i with
    | some (.ref j) => if b0 ≤ j ∧ j < s.M.length ∧ noRef j (s.ρ.set i none) = true then .ok .next ⟨s.ρ, s.M.set j (.lst ds)⟩ else .stuck
    | _ => .stuck)
  | b0, .setsub i x e, s => (evE tb Φ e s).bind fun v s => (match s.get i with
    | some (.ref j) => (evE tb Φ x s).bind fun k s => (match v, intSl k, s.M[j]? with
      | .d v, some k, some (.lst xs) => (match ixN xs.length k with
        | some p => .ok .next ⟨s.ρ, s.M.set j (.lst (xs.set p v))⟩
        | none => .stuck)
      | _, _, _ => .stuck)
    | _ => .stuck)
  | b0, .setfld i x e, s => (evE tb Φ e s).bind fun v s => (match v, s.get i with
    | .d v, some (.ref j) => (match s.M[j]? with
      | some (.obj c fs) => (match tb.fix c x with
        | some k => if k = fs.length ∧ k < 900 then .ok .next ⟨s.ρ, s.M.set j (.obj c (fs ++ [v]))⟩ else .stuck
        | none => .stuck)
      | _ => .stuck)
    | _, _ => .stuck)
  | b0, .augsub i x o e, s => (match s.get i with
    | some (.ref j) => (evE tb Φ x s).bind fun k s => (match intSl k, s.M[j]? with
      | some k, some (.lst xs) => (match atI xs k with
        | some old => (evE tb Φ e s).bind fun v s => (match v, s.M[j]? with
          | .d v, some (.lst ys) => (match binA o old v, ixN ys.length k with
            | some r, some p => .ok .next ⟨s.ρ, s.M.set j (.lst (ys.set p r))⟩
            | _, _ => .stuck)
          | _, _ => .stuck)
        | none => .stuck)
      | _, _ => .stuck)
    | _ => .stuck)
  | b0, .aug i o e, s => (match s.get i with
    | some (.d x) => (evE tb Φ e s).bind fun v s => (match v with
      | .d y => (match binA o x y with
        | some r => .ok .next (s.put i (.d r))
        | none => .stuck)
      | _ => .stuck)
    | _ => .stuck)
  | b0, .unp is e, s => (evE tb Φ e s).bind fun v s => (match v with
    | .d (.tup xs) => (match putMany is xs s with
      | some s' => .ok .next s'
      | none => .stuck)
    | _ => .stuck)
  | b0, .par2 i j a b, s => (evE tb Φ a s).bind fun x s => (evE tb Φ b s).bind fun y s => (match x, y with
    | .d x, .d y => if i < s.ρ.length ∧ j < s.ρ.length then .ok .next ((s.put i (.d x)).put j (.d y)) else .stuck
    | _, _ => .stuck)
  | b0, .par3 i j l a b e, s => (evE tb Φ a s).bind fun x s => (evE tb Φ b s).bind fun y s => (evE tb Φ e s).bind fun z s => (match x, y, z with
    | .d x, .d y, .d z => if i < s.ρ.length ∧ j < s.ρ.length ∧ l < s.ρ.length then .ok .next (((s.put i (.d x)).put j (.d y)).put l (.d z)) else .stuck
    | _, _, _ => .stuck)
  | b0, .ex e, s => (evE tb Φ e s).bind fun _ s => .ok .next s
  | b0, .ret e, s => (evE tb Φ e s).bind fun v s => (match v with
    | .d x => .ok (.ret (.d x)) s
    | _ => .stuck)
  | b0, .retN n, s => (evN tb Φ n s).bind fun ds s => .ok (.ret (.new ds)) s
  | b0, .retC i, s => (match s.get i with
    | some (.ref j) => (match s.M[j]? with
      | some (.lst xs) => if b0 ≤ j then .ok (.ret (.new xs)) ⟨s.ρ.map fun _ => none, s.M.take j⟩ else .stuck
      | _ => .stuck)
    | _ => .stuck)
  | b0, .ret0, s => .ok (.ret (.d .non)) s
  | b0, .ifs t a b, s => (evT tb Φ t s).bind fun c s => (match c with
    | true => evB b0 a s
    | false => evB b0 b s)
  | b0, .for1 i it fg b, s => (evI tb Φ it s).bind fun xs s => if belowS s.M.length (forget fg s.ρ) = true then forGo (setOne i) (evB b0 b) fg s.M.length (xs.map .d) (clean fg s.M.length s) else .stuck
  | b0, .forD i as fg b, s => (evA tb Φ as s).bind fun xs s => if belowS s.M.length (forget fg s.ρ) = true then forGo (setOne i) (evB s.M.length b) fg s.M.length xs (clean fg s.M.length s) else .stuck
  | b0, .forE i j e fg b, s => (evE tb Φ e s).bind fun v s => (match v with
    | .d (.lst xs) => if belowS s.M.length (forget fg s.ρ) = true then forGo (setTwo i j) (evB b0 b) fg s.M.length ((enumL 0 xs).map .d) (clean fg s.M.length s) else .stuck
    | .d (.tup xs) => if belowS s.M.length (forget fg s.ρ) = true then forGo (setTwo i j) (evB b0 b) fg s.M.length ((enumL 0 xs).map .d) (clean fg s.M.length s) else .stuck
    | .d (.str t) => if belowS s.M.length (forget fg s.ρ) = true then forGo (setTwo i j) (evB b0 b) fg s.M.length ((enumL 0 (t.map fun c => .str [c])).map .d) (clean fg s.M.length s) else .stuck
    | _ => .stuck)
  | b0, .forC i src n fg b, s => (match s.get src with
    | some (.ref j) => if belowS s.M.length (forget fg s.ρ) = true then liveGo (setOne i) (evB s.M.length b) fg s.M.length j n 0 (clean fg s.M.length s) else .stuck
    | _ => .stuck)
  | b0, .whl n t fg b, s => if belowS s.M.length (forget fg s.ρ) = true then whileGo (evT tb Φ t) (evB b0 b) fg s.M.length n (clean fg s.M.length s) else .stuck
  | b0, .brk, s => .ok .brk s
  | b0, .cont, s => .ok .cont s
  | b0, .pass, s => .ok .next s
  | b0, .rai c as, s => (evA tb Φ as s).bind fun vs s => (match datas vs with
    | some ds => if raiOk ds = true ∧ (tb.cls[c]?).map (fun i => i.flds.length) = some ds.length then .exc c ds s else .stuck
    | none => .stuck)
  | b0, .tryS b hs, s => (match evB b0 b s with
    | .exc c fs s' => evH b0 hs c fs s'
    | r => r)
def evB : Nat → Bl → S → R Flow
  | b0, .nil, s => .ok .next s
  | b0, .cons st b, s => (evS b0 st s).bind fun f s => (match f with
    | .next => evB b0 b s
    | f => .ok f s)
  | b0, .gh g b, s => (ghost b0 g s).bind fun _ s => evB b0 b s
def evH : Nat → Hs → Nat → List D → S → R Flow
  | b0, .nil, c, fs, s => .exc c fs s
  | b0, .cons k i b hs, c, fs, s => if c < tb.cls.length ∧ k < tb.cls.length ∧ tb.isExc c = true ∧ tb.isExc k = true then (if tb.isSub c k = true then (match i with
      | none => (match evB b0 b s with
        | .ok f s' => .ok f s'
        | _ => .stuck)
      | some i => if i < s.ρ.length then (match evB b0 b (s.put i (.exn c fs)) with
        | .ok f s' => if noEx (s'.ρ.set i none) = true then .ok f ⟨s'.ρ.set i none, s'.M⟩ else .stuck
        | _ => .stuck) else .stuck)
    else evH b0 hs c fs s) else .stuck
end
end

/-! ### functions -/
structure FnI where
  slots : Nat
  body : Bl
def runF (tb : Tb) (Φ : Nat → FM) (fi : FnI) : FM := fun as M => match evB tb Φ M.length fi.body ⟨as.map some ++ List.replicate (fi.slots - as.length) none, M⟩ with
  | .ok .next s => .ret (.d .non) (s.M.take M.length)
  | .ok (.ret v) s => .ret v (s.M.take M.length)
  | .exc c fs s => .exc c fs (s.M.take M.length)
  | _ => .stuck
def Phi (tb : Tb) (fs : List FnI) : Nat → Nat → FM
  | 0, _ => fun _ _ => .stuck
  | k + 1, f => match fs[f]? with
    | some fi => runF tb (Phi tb fs k) fi
    | none => fun _ _ => .stuck
end GF

set_option Elab.async false
set_option linter.all false
set_option maxRecDepth 100000
set_option autoImplicit false
namespace GF
open PySem PySem.Spec PyProof.Rows L2
abbrev Ad := PySem.Addr
abbrev St' := L2.St

def toS (t : Tx) : Str := ⟨t.toArray⟩
def okT (t : Tx) : Prop := t.length ≤ sizeLine ∧ ∀ c ∈ t, c < 0x110000

/-- what is fixed: the written part, the classes' addresses, their fields' names -/
structure Ge where
  K : PySem.W.Frag
  cad : Nat → Ad
  nms : Nat → List Str
  tb : Tb

mutual
inductive Rep (G : Ge) (F : Hp) : D → V → Prop where
  | non : Rep G F .non .non
  | bl (b : Bool) : Rep G F (.bl b) (.bl b)
  | int (i : Int) : Rep G F (.int i) (.int i)
  | str (t : Tx) : okT t → Rep G F (.str t) (.str (toS t))
  | lst {a : Ad} {vs : List V} {ds : List D} : F a = some (.lst vs) → Reps G F ds vs → Rep G F (.lst ds) (.ref a)
  | tup {a : Ad} {vs : List V} {ds : List D} : SqT G.K F a vs → Reps G F ds vs → Rep G F (.tup ds) (.ref a)
  | obj {a dx : Ad} {c : Nat} {fv : List (Str × V)} {vs : List V} {fs : List D} : F a = some (.ins (G.cad c) dx fv) → fv.map (·.1) = G.nms c → fv.map (·.2) = vs → Reps G F fs vs → Rep G F (.obj c fs) (.ref a)
  | scr {a : Ad} {ns : List Int} : SqL G.K F a (ns.map V.int) → Rep G F (.scr ns) (.ref a)
inductive Reps (G : Ge) (F : Hp) : List D → List V → Prop where
  | nil : Reps G F [] []
  | cons {d : D} {v : V} {ds : List D} {vs : List V} : Rep G F d v → Reps G F ds vs → Reps G F (d :: ds) (v :: vs)
end
def Ext (H H' : Hp) : Prop := ∀ a o, H a = some o → H' a = some o
theorem Ext.refl {H : Hp} : Ext H H := fun _ _ h => h
theorem Ext.trans {H H1 H2 : Hp} (a : Ext H H1) (b : Ext H1 H2) : Ext H H2 := fun x o h => b x o (a x o h)
theorem Ext.new {H : Hp} {p : Ad} {o : HO} (h : H p = none) : Ext H (upd H p o) := fun a u e => by
  rw [upd_ne (ne_of_none e h)]
  exact e
theorem Ext.mut {H H' : Hp} {p : Ad} {o : HO} (e : Ext H H') (h : H p = none) : Ext H (upd H' p o) := fun a u ha => by
  rw [upd_ne (ne_of_none ha h)]
  exact e a u ha
theorem Ext.up {H H' : Hp} {p : Ad} {o : HO} (e : Ext H H') : Ext (upd H p o) (upd H' p o) := fun a u ha => by
  by_cases h : a = p
  · subst h; rw [upd_same] at ha ⊢; exact ha
  · rw [upd_ne h] at ha ⊢; exact e a u ha
theorem Ext.back {H H' : Hp} {p : Ad} (e : Ext H H') (h : H' p = none) : H p = none := by
  cases h1 : H p with
  | none => rfl
  | some o => rw [e p o h1] at h; cases h
theorem ext_rd {H H' : Hp} {a : Ad} {u : HO} (e : Ext H H') (h : Rd H a u) : Rd H' a u := by
  rcases h with h | ⟨o, h⟩
  · exact Or.inl (e a _ h)
  · exact Or.inr ⟨o, e a _ h⟩
theorem ext_l {K : PySem.W.Frag} {H H' : Hp} {a : Ad} {xs : List V} (e : Ext H H') (h : SqL K H a xs) : SqL K H' a xs := by
  rcases h with h | h
  · exact Or.inl (ext_rd e h)
  · exact Or.inr h
theorem ext_t {K : PySem.W.Frag} {H H' : Hp} {a : Ad} {xs : List V} (e : Ext H H') (h : SqT K H a xs) : SqT K H' a xs := by
  rcases h with h | h
  · exact Or.inl (ext_rd e h)
  · exact Or.inr h
section
variable {G : Ge} {F F' : Hp}
mutual
theorem Rep.mono (e : Ext F F') : ∀ {d : D} {v : V}, Rep G F d v → Rep G F' d v
  | _, _, .non => .non
  | _, _, .bl b => .bl b
  | _, _, .int i => .int i
  | _, _, .str t h => .str t h
  | _, _, .lst h r => .lst (e _ _ h) (Reps.mono e r)
  | _, _, .tup h r => .tup (ext_t e h) (Reps.mono e r)
  | _, _, .obj h n n2 r => .obj (e _ _ h) n n2 (Reps.mono e r)
  | _, _, .scr h => .scr (ext_l e h)
theorem Reps.mono (e : Ext F F') : ∀ {d : List D} {v : List V}, Reps G F d v → Reps G F' d v
  | _, _, .nil => .nil
  | _, _, .cons r t => .cons (Rep.mono e r) (Reps.mono e t)
end
theorem Reps.length : ∀ {d : List D} {v : List V}, Reps G F d v → v.length = d.length
  | _, _, .nil => rfl
  | _, _, .cons _ t => congrArg Nat.succ (Reps.length t)
theorem Reps.get : ∀ {ds : List D} {vs : List V} {i : Nat} {d : D}, Reps G F ds vs → ds[i]? = some d → ∃ v, vs[i]? = some v ∧ Rep G F d v
  | _, _, _, _, .nil, e => by simp at e
  | _, _, 0, _, .cons r _, e => by simp at e; subst e; exact ⟨_, rfl, r⟩
  | _, _, i + 1, x, .cons _ t, e => by
    obtain ⟨u, h1, h2⟩ := Reps.get (i := i) (d := x) t (by simpa using e)
    exact ⟨u, by simpa using h1, h2⟩
theorem Reps.getV : ∀ {ds : List D} {vs : List V} {i : Nat} {v : V}, Reps G F ds vs → vs[i]? = some v → ∃ d, ds[i]? = some d ∧ Rep G F d v
  | _, _, _, _, .nil, e => by simp at e
  | _, _, 0, _, .cons r _, e => by simp at e; subst e; exact ⟨_, rfl, r⟩
  | _, _, i + 1, x, .cons _ t, e => by
    obtain ⟨u, h1, h2⟩ := Reps.getV (i := i) (v := x) t (by simpa using e)
    exact ⟨u, by simpa using h1, h2⟩
theorem Reps.append : ∀ {ds es : List D} {vs ws : List V}, Reps G F ds vs → Reps G F es ws → Reps G F (ds ++ es) (vs ++ ws)
  | _, _, _, _, .nil, s => s
  | _, _, _, _, .cons r t, s => .cons r (Reps.append t s)
theorem Reps.set {d : D} {v : V} (r : Rep G F d v) : ∀ {ds : List D} {vs : List V} (i : Nat), Reps G F ds vs → Reps G F (ds.set i d) (vs.set i v)
  | _, _, _, .nil => .nil
  | _, _, 0, .cons _ t => .cons r t
  | _, _, i + 1, .cons q t => .cons q (Reps.set r i t)
theorem Reps.take : ∀ {ds : List D} {vs : List V} (n : Nat), Reps G F ds vs → Reps G F (ds.take n) (vs.take n)
  | _, _, 0, _ => .nil
  | _, _, _ + 1, .nil => .nil
  | _, _, n + 1, .cons r t => .cons r (Reps.take n t)
theorem Reps.drop : ∀ {ds : List D} {vs : List V} (n : Nat), Reps G F ds vs → Reps G F (ds.drop n) (vs.drop n)
  | _, _, 0, r => r
  | _, _, _ + 1, .nil => .nil
  | _, _, n + 1, .cons _ t => Reps.drop n t
theorem Reps.rep {ds : List D} {vs : List V} (r : Reps G F ds vs) : ∀ k : Nat, Reps G F (List.replicate k ds).flatten (List.replicate k vs).flatten
  | 0 => by simpa using Reps.nil
  | k + 1 => by
    rw [List.replicate_succ, List.replicate_succ, List.flatten_cons, List.flatten_cons]
    exact r.append (Reps.rep r k)
theorem Reps.dropLast {ds : List D} {vs : List V} (h : Reps G F ds vs) : Reps G F ds.dropLast vs.dropLast := by
  rw [List.dropLast_eq_take, List.dropLast_eq_take, h.length]
  exact h.take _
theorem Reps.ints : ∀ {ns : List Int} {vs : List V}, Reps G F (ns.map D.int) vs → vs = ns.map V.int
  | [], _, .nil => rfl
  | _ :: ns, _, .cons (.int _) t => by rw [Reps.ints (ns := ns) t]; rfl
theorem Reps.of_ints : ∀ (ns : List Int), Reps G F (ns.map D.int) (ns.map V.int)
  | [] => .nil
  | n :: ns => .cons (.int n) (Reps.of_ints ns)
end

/-- the exception that is handled: its object, class, own dict -/
abbrev EA := Option (Ad × Ad × Option Ad)
def ExnR (G : Ge) (F : Hp) (c : Nat) (fs : List D) (C : Ad) (d : Option Ad) : Prop :=
  C = G.cad c ∧ ((fs = [] ∧ d = none) ∨ ∃ dd fv vs, d = some dd ∧ F dd = some (.xd fv) ∧ fv.map (·.1) = G.nms c ∧ fv.map (·.2) = vs ∧ Reps G F fs vs)
theorem ExnR.mono {G : Ge} {F F' : Hp} {c : Nat} {fs : List D} {C : Ad} {d : Option Ad} (e : Ext F F') (h : ExnR G F c fs C d) : ExnR G F' c fs C d := by
  obtain ⟨h1, h2⟩ := h
  refine ⟨h1, ?_⟩
  rcases h2 with h2 | ⟨dd, fv, vs, h3, h4, h5, h6, h7⟩
  · exact .inl h2
  · exact .inr ⟨dd, fv, vs, h3, e _ _ h4, h5, h6, h7.mono e⟩
def RepS (G : Ge) (F : Hp) (A : List Ad) (eA : EA) : Sl → V → Prop
  | .d x, v => Rep G F x v
  | .ref j, v => ∃ a, A[j]? = some a ∧ v = .ref a
  | .exn c fs, v => ∃ a C d, eA = some (a, C, d) ∧ v = .ref a ∧ ExnR G F c fs C d
theorem pre_get {A A' : List Ad} (h : A <+: A') {j : Nat} {a : Ad} (e : A[j]? = some a) : A'[j]? = some a := by
  obtain ⟨t, rfl⟩ := h
  rw [List.getElem?_append_left (List.getElem?_eq_some_iff.mp e).1]
  exact e
theorem RepS.mono {G : Ge} {F F' : Hp} {A A' : List Ad} {eA : EA} (e : Ext F F') (p : A <+: A') : ∀ {x : Sl} {v : V}, RepS G F A eA x v → RepS G F' A' eA x v
  | .d _, _, h => Rep.mono e h
  | .ref _, _, ⟨a, h1, h2⟩ => ⟨a, pre_get p h1, h2⟩
  | .exn _ _, _, ⟨a, C, d, h1, h2, h3⟩ => ⟨a, C, d, h1, h2, h3.mono e⟩
def CellR (G : Ge) (F : Hp) (m : D) (o : Option HO) : Prop := match m with
  | .lst ds => ∃ vs, o = some (.lst vs) ∧ Reps G F ds vs
  | .obj c fs => ∃ dx fv vs, o = some (.ins (G.cad c) dx fv) ∧ fv.map (·.1) = (G.nms c).take fs.length ∧ fv.map (·.2) = vs ∧ Reps G F fs vs
  | _ => False
theorem CellR.mono {G : Ge} {F F' : Hp} (e : Ext F F') : ∀ {m : D} {o : Option HO}, CellR G F m o → CellR G F' m o
  | .lst _, _, ⟨vs, h1, h2⟩ => ⟨vs, h1, h2.mono e⟩
  | .obj _ _, _, ⟨dx, fv, vs, h1, h2, h3, h4⟩ => ⟨dx, fv, vs, h1, h2, h3, h4.mono e⟩
  | .non, _, h => h.elim
  | .bl _, _, h => h.elim
  | .int _, _, h => h.elim
  | .str _, _, h => h.elim
  | .tup _, _, h => h.elim
  | .scr _, _, h => h.elim

/-- the store: F what is frozen, P what is kept as it is, A the cells' places -/
structure RelM (G : Ge) (P : Hp) (M : List D) (F : Hp) (A : List Ad) (H : Hp) : Prop where
  ex : Ext F H
  pr : Ext P H
  pf : ∀ a o, P a = some o → F a = none ∧ a ∉ A
  len : A.length = M.length
  nd : A.Nodup
  cells : ∀ (j : Nat) (a : Ad) (m : D), A[j]? = some a → M[j]? = some m → F a = none ∧ CellR G F m (H a)
structure RelS (G : Ge) (P : Hp) (eA : EA) (s : S) (F : Hp) (A : List Ad) (σ : St') (H : Hp) : Prop where
  mem : RelM G P s.M F A H
  slots : ∀ (i : Nat) (v : Sl), s.ρ[i]? = some (some v) → ∃ u, σ[i]? = some (some u) ∧ RepS G F A eA v u
  slen : s.ρ.length = σ.length

section
variable {G : Ge} {P : Hp} {eA : EA} {s s' : S} {F F' : Hp} {A A' : List Ad} {σ σ' : St'} {H H' : Hp} {M M' : List D}
theorem RelM.lt (r : RelM G P M F A H) {j : Nat} {m : D} (e : M[j]? = some m) : ∃ a, A[j]? = some a := by
  have h := (List.getElem?_eq_some_iff.mp e).1
  rw [← r.len] at h
  exact ⟨A[j], by rw [List.getElem?_eq_getElem h]⟩
/-- a new object, frozen -/
theorem RelM.laid (r : RelM G P M F A H) {p : Ad} {o : HO} (hp : H p = none) : RelM G P M (upd F p o) A (upd H p o) := by
  have fp : F p = none := r.ex.back hp
  have hA : p ∉ A := fun hm => by
    obtain ⟨j, hj, e⟩ := List.mem_iff_getElem.mp hm
    have e1 : A[j]? = some p := by rw [List.getElem?_eq_getElem hj, e]
    have hM : j < M.length := by rw [← r.len]; exact hj
    obtain ⟨_, c⟩ := r.cells j p M[j] e1 (List.getElem?_eq_getElem hM)
    rw [hp] at c
    cases hm : M[j] <;> rw [hm] at c <;> simp [CellR] at c
  refine ⟨r.ex.up, r.pr.mut (r.pr.back hp), fun a u ha => ?_, r.len, r.nd, fun j a m e1 e2 => ?_⟩
  · have ne : a ≠ p := ne_of_none ha (r.pr.back hp)
    rw [upd_ne ne]
    exact r.pf a u ha
  · obtain ⟨h1, h2⟩ := r.cells j a m e1 e2
    have ne : a ≠ p := fun z => hA (by rw [← z]; exact List.mem_of_getElem? e1)
    rw [upd_ne ne, upd_ne ne]
    exact ⟨h1, h2.mono (Ext.new fp)⟩
theorem RelM.fresh (r : RelM G P M F A H) {p : Ad} (hp : H p = none) : F p = none ∧ P p = none ∧ p ∉ A := by
  refine ⟨r.ex.back hp, r.pr.back hp, fun hm => ?_⟩
  obtain ⟨j, hj, e⟩ := List.mem_iff_getElem.mp hm
  have e1 : A[j]? = some p := by rw [List.getElem?_eq_getElem hj, e]
  have hM : j < M.length := by rw [← r.len]; exact hj
  obtain ⟨_, c⟩ := r.cells j p M[j] e1 (List.getElem?_eq_getElem hM)
  rw [hp] at c
  cases hm : M[j] <;> rw [hm] at c <;> simp [CellR] at c
/-- a new object, told of nowhere -/
theorem RelM.skip (r : RelM G P M F A H) {p : Ad} {o : HO} (hp : F p = none) (hP : P p = none) (hA : p ∉ A) : RelM G P M F A (upd H p o) := by
  refine ⟨r.ex.mut hp, r.pr.mut hP, r.pf, r.len, r.nd, fun j a m e1 e2 => ?_⟩
  obtain ⟨h1, h2⟩ := r.cells j a m e1 e2
  have ne : a ≠ p := fun z => hA (by rw [← z]; exact List.mem_of_getElem? e1)
  rw [upd_ne ne]
  exact ⟨h1, h2⟩
/-- a fresh thing is frozen -/
theorem RelM.freeze (r : RelM G P M F A H) {p : Ad} {o : HO} (hF : F p = none) (hP : P p = none) (hA : p ∉ A) (hp : H p = some o) : RelM G P M (upd F p o) A H := by
  refine ⟨fun a u ha => ?_, r.pr, fun a u ha => ?_, r.len, r.nd, fun j a m e1 e2 => ?_⟩
  · by_cases z : a = p
    · subst z; rw [upd_same] at ha; rw [hp]; exact ha
    · rw [upd_ne z] at ha; exact r.ex a u ha
  · have ne : a ≠ p := ne_of_none ha hP
    rw [upd_ne ne]
    exact r.pf a u ha
  · obtain ⟨h1, h2⟩ := r.cells j a m e1 e2
    have ne : a ≠ p := fun z => hA (by rw [← z]; exact List.mem_of_getElem? e1)
    rw [upd_ne ne]
    exact ⟨h1, h2.mono (Ext.new hF)⟩
/-- a fresh thing becomes a cell -/
theorem RelM.cell (r : RelM G P M F A H) {p : Ad} {m : D} (hF : F p = none) (hP : P p = none) (hA : p ∉ A) (hp : CellR G F m (H p)) : RelM G P (M ++ [m]) F (A ++ [p]) H := by
  refine ⟨r.ex, r.pr, fun a u ha => ?_, by simp [r.len], ?_, fun j a x e1 e2 => ?_⟩
  · obtain ⟨h1, h2⟩ := r.pf a u ha
    refine ⟨h1, fun hm => ?_⟩
    rcases List.mem_append.mp hm with z | z
    · exact h2 z
    · rw [List.mem_singleton] at z; subst z; rw [hP] at ha; cases ha
  · refine List.nodup_append.mpr ⟨r.nd, by simp, fun a ha b hb z => ?_⟩
    rw [List.mem_singleton] at hb
    subst hb z
    exact hA ha
  · by_cases hj : j < A.length
    · rw [List.getElem?_append_left hj] at e1
      rw [List.getElem?_append_left (by rw [← r.len]; exact hj)] at e2
      exact r.cells j a x e1 e2
    · have hl : j < (A ++ [p]).length := (List.getElem?_eq_some_iff.mp e1).1
      rw [List.length_append, List.length_singleton] at hl
      have ej : j = A.length := by omega
      subst ej
      rw [List.getElem?_append_right (Nat.le_refl _), Nat.sub_self] at e1
      rw [r.len, List.getElem?_append_right (Nat.le_refl _), Nat.sub_self] at e2
      have e1' : p = a := by simpa using e1
      have e2' : m = x := by simpa using e2
      subst e1' e2'
      exact ⟨hF, hp⟩
theorem nodup_at {α : Type} {A : List α} (h : A.Nodup) {i j : Nat} {a : α} (e1 : A[i]? = some a) (e2 : A[j]? = some a) : i = j := by
  obtain ⟨h1, e1⟩ := List.getElem?_eq_some_iff.mp e1
  obtain ⟨h2, e2⟩ := List.getElem?_eq_some_iff.mp e2
  exact (List.getElem_inj h).mp (e1.trans e2.symm)
/-- a cell is written -/
theorem RelM.write (r : RelM G P M F A H) {j : Nat} {a : Ad} {m : D} {o : HO} (e : A[j]? = some a) (c : CellR G F m (some o)) : RelM G P (M.set j m) F A (upd H a o) := by
  have hj : j < A.length := (List.getElem?_eq_some_iff.mp e).1
  have hM : j < M.length := by rw [← r.len]; exact hj
  have fa : F a = none := (r.cells j a M[j] e (List.getElem?_eq_getElem hM)).1
  have hP : P a = none := by
    cases q : P a with
    | none => rfl
    | some u => exact absurd (List.mem_of_getElem? e) (r.pf a u q).2
  refine ⟨r.ex.mut fa, r.pr.mut hP, r.pf, by simp [r.len], r.nd, fun i b x e1 e2 => ?_⟩
  by_cases hi : i = j
  · subst hi
    rw [e] at e1
    cases e1
    rw [List.getElem?_set_self hM] at e2
    cases e2
    rw [upd_same]
    exact ⟨fa, c⟩
  · rw [List.getElem?_set_ne (Ne.symm hi)] at e2
    obtain ⟨h1, h2⟩ := r.cells i b x e1 e2
    have ne : b ≠ a := fun z => hi (nodup_at r.nd e1 (by rw [z]; exact e))
    rw [upd_ne ne]
    exact ⟨h1, h2⟩
/-- the last cells are dropped -/
theorem RelM.trunc (r : RelM G P M F A H) (n : Nat) : RelM G P (M.take n) F (A.take n) H := by
  refine ⟨r.ex, r.pr, fun a u ha => ⟨(r.pf a u ha).1, fun z => (r.pf a u ha).2 (List.mem_of_mem_take z)⟩, by simp [r.len], r.nd.sublist (List.take_sublist _ _), fun j a m e1 e2 => ?_⟩
  rw [List.getElem?_take] at e1 e2
  split at e1
  · rename_i h
    rw [if_pos h] at e2
    exact r.cells j a m e1 e2
  · cases e1

theorem RelS.put (r : RelS G P eA s F A σ H) {i : Nat} {v : Sl} {u : V} (h : RepS G F A eA v u) (hi : i < s.ρ.length) : RelS G P eA (s.put i v) F A (σ.set i (some u)) H := by
  refine ⟨r.mem, fun j w e => ?_, by simp [S.put, r.slen]⟩
  by_cases hj : j = i
  · subst hj
    have e' : (s.ρ.set j (some v))[j]? = some (some w) := e
    rw [List.getElem?_set_self hi] at e'
    cases e'
    exact ⟨u, by rw [List.getElem?_set_self (by rw [← r.slen]; exact hi)], h⟩
  · have e' : (s.ρ.set i (some v))[j]? = some (some w) := e
    rw [List.getElem?_set_ne (Ne.symm hj)] at e'
    obtain ⟨u', h1, h2⟩ := r.slots j w e'
    exact ⟨u', by rw [List.getElem?_set_ne (Ne.symm hj)]; exact h1, h2⟩
theorem RelS.get (r : RelS G P eA s F A σ H) {i : Nat} {v : Sl} (e : s.get i = some v) : ∃ u, σ[i]? = some (some u) ∧ RepS G F A eA v u := by
  refine r.slots i v ?_
  unfold S.get at e
  split at e
  · rename_i w h; cases e; exact h
  · cases e
/-- another store, the same slots -/
theorem RelS.mono {P' : Hp} (r : RelS G P eA s F A σ H) (e : Ext F F') (p : A <+: A') (m : RelM G P' M' F' A' H') : RelS G P' eA ⟨s.ρ, M'⟩ F' A' σ H' :=
  ⟨m, fun i v h => let ⟨u, h1, h2⟩ := r.slots i v h; ⟨u, h1, h2.mono e p⟩, r.slen⟩
theorem RelS.mono' (r : RelS G P eA s F A σ H) (e : Ext F F') (m : RelM G P s.M F' A H') : RelS G P eA s F' A σ H' := r.mono e (List.prefix_refl _) m
end
end GF

set_option Elab.async false
set_option linter.all false
set_option maxRecDepth 100000
set_option autoImplicit false
set_option maxHeartbeats 1000000
namespace GF
open PySem PySem.Spec PyProof.Rows L2

/-! ### texts -/
theorem LN_eq : LN = sizeLine := by rw [sizeLine_eq]; rfl
theorem toS_len (t : Tx) : (toS t).length = t.length := by simp [toS, Str.length]
theorem toS_cps (t : Tx) : (toS t).cps.toList = t := by simp [toS]
theorem toS_app (a b : Tx) : toS a ++ toS b = toS (a ++ b) := by
  show (⟨a.toArray ++ b.toArray⟩ : Str) = ⟨(a ++ b).toArray⟩
  simp
theorem toS_inj {a b : Tx} (h : toS a = toS b) : a = b := by
  have := congrArg (fun s : Str => s.cps.toList) h
  simpa [toS] using this
theorem toS_of (s : Str) : toS s.cps.toList = s := by
  obtain ⟨a⟩ := s
  simp [toS]
theorem okT_app {a b : Tx} (h1 : okT a) (h2 : okT b) (h : a.length + b.length ≤ LN) : okT (a ++ b) := by
  rw [LN_eq] at h
  refine ⟨by rw [List.length_append]; exact h, fun c hc => ?_⟩
  rcases List.mem_append.mp hc with z | z
  · exact h1.2 c z
  · exact h2.2 c z
theorem okT_sub {a b : Tx} (h1 : okT a) (h : b.Sublist a) : okT b := ⟨Nat.le_trans h.length_le h1.1, fun c hc => h1.2 c (h.subset hc)⟩
theorem okT_one {t : Tx} {c : Nat} (h : okT t) (hc : c ∈ t) : okT [c] := ⟨by show 1 ≤ sizeLine; decide, fun d hd => by rw [List.mem_singleton] at hd; rw [hd]; exact h.2 c hc⟩
theorem sIx_eq (n d : Nat) (o : Option Int) : HT.sIx n d o = GF.sIx n d o := by
  cases o with
  | none => rfl
  | some v =>
    show (if v < 0 then (v + (n : Int)).toNat else min v.toNat n) = (if v < 0 then (max (v + (n : Int)) 0).toNat else (min v (n : Int)).toNat)
    split <;> omega
theorem cut_sub {α : Type} (xs : List α) (lo hi : Option Int) : (cut xs lo hi).Sublist xs := (List.take_sublist _ _).trans (List.drop_sublist _ _)
theorem cutS_eq (t : Tx) (lo hi : Option Int) : cutS (toS t) lo hi = toS (cut t lo hi) := by
  unfold cutS cut toS
  simp [Str.length, sIx_eq]
theorem Reps.cut {G : Ge} {F : Hp} {ds : List D} {vs : List V} (r : Reps G F ds vs) (lo hi : Option Int) : Reps G F (GF.cut ds lo hi) (cutV vs lo hi) := by
  unfold GF.cut cutV
  rw [sIx_eq, sIx_eq, r.length]
  exact (r.drop _).take _
theorem ixN_eq (n : Nat) (i : Int) : L2.ixN n i = GF.ixN n i := rfl
theorem Reps.at {G : Ge} {F : Hp} {ds : List D} {vs : List V} {i : Int} {d : D} (r : Reps G F ds vs) (h : GF.atI ds i = some d) : ∃ v, L2.atI vs i = some v ∧ Rep G F d v := by
  unfold GF.atI at h
  unfold L2.atI
  rw [ixN_eq, r.length]
  cases e : GF.ixN ds.length i with
  | none => rw [e] at h; cases h
  | some j =>
    rw [e] at h
    obtain ⟨v, h1, h2⟩ := r.get (i := j) (d := d) h
    exact ⟨v, h1, h2⟩
theorem toS_rep (s : Tx) : ∀ n : Nat, (List.replicate n (toS s)).foldl (· ++ ·) Str.empty = toS (repT s n) := by
  have key : ∀ (n : Nat) (acc : Tx), (List.replicate n (toS s)).foldl (· ++ ·) (toS acc) = toS (acc ++ repT s n) := by
    intro n
    induction n with
    | zero => intro acc; simp [repT]
    | succ n ih =>
      intro acc
      rw [List.replicate_succ, List.foldl_cons, toS_app, ih]
      congr 1
      simp [repT, List.replicate_succ]
  intro n
  have := key n []
  simpa [toS, Str.empty] using this

/-! ### what a value is -/
section
variable {G : Ge} {F : Hp} {v : V}
theorem Rep.int_ {i : Int} (h : Rep G F (.int i) v) : v = .int i := by cases h; rfl
theorem Rep.bl_ {b : Bool} (h : Rep G F (.bl b) v) : v = .bl b := by cases h; rfl
theorem Rep.non_ (h : Rep G F .non v) : v = .non := by cases h; rfl
theorem Rep.str_ {t : Tx} (h : Rep G F (.str t) v) : v = .str (toS t) ∧ okT t := by cases h; exact ⟨rfl, by assumption⟩
theorem Rep.lst_ {ds : List D} (h : Rep G F (.lst ds) v) : ∃ a vs, v = .ref a ∧ F a = some (.lst vs) ∧ Reps G F ds vs := by cases h; exact ⟨_, _, rfl, by assumption, by assumption⟩
theorem Rep.tup_ {ds : List D} (h : Rep G F (.tup ds) v) : ∃ a vs, v = .ref a ∧ SqT G.K F a vs ∧ Reps G F ds vs := by cases h; exact ⟨_, _, rfl, by assumption, by assumption⟩
theorem Rep.scr_ {ns : List Int} (h : Rep G F (.scr ns) v) : ∃ a, v = .ref a ∧ SqL G.K F a (ns.map V.int) := by cases h; exact ⟨_, rfl, by assumption⟩
end

/-! ### arithmetic -/
def CDivA (_ j : Int) : Prop := j ≠ 0 ∧ j.natAbs.log2 < 9000
theorem op_fdivA {X : Cx} : OpR X (binaryOp .FloorDiv) (rI CDivA fun i j => .int (i.fdiv j)) := opI fun _ _ _ _ _ _ _ hc q => floordiv_int hc.1 q (.inl (PyProof.noPylong_of_log2 hc.2))
theorem iop_fdivA {X : Cx} : OpR X (inplaceOp .FloorDiv) (rI CDivA fun i j => .int (i.fdiv j)) := opI fun _ _ _ _ _ _ _ hc q => ifloordiv_int hc.1 q (.inl (PyProof.noPylong_of_log2 hc.2))
def bopOf : Bop → Operator
  | .add => .Add
  | .sub => .Sub
  | .mul => .Mult
  | .fdiv => .FloorDiv
  | .mod => .Mod
  | .pow => .Pow
/-- the answer z is told, what is frozen may have grown -/
def AnsD (G : Ge) (P : Hp) (M : List D) (F : Hp) (A : List Ad) (z : D) (Q : VK) : Prop := ∀ u F' H', Ext F F' → RelM G P M F' A H' → Rep G F' z u → Q u H'
section
variable {X : Cx} {G : Ge} {P : Hp} {M : List D} {F : Hp} {A : List Ad} {σ : St'} {H : Hp} {pins : List (Ad × Obj)} {s : Shared} {Q : VK} {u w : V} {uv wv : Value}
theorem AnsD.now {z : D} {t : V} (q : AnsD G P M F A z Q) (r : RelM G P M F A H) (h : Rep G F z t) : Q t H := q t F H Ext.refl r h
theorem AnsD.tup {ds : List D} {vs : List V} (q : AnsD G P M F A (.tup ds) Q) (r : RelM G P M F A H) (h : Reps G F ds vs) {p : Ad} (hp : H p = none) : Q (.ref p) (upd H p (.tup vs)) :=
  q _ (upd F p (.tup vs)) _ (Ext.new (r.ex.back hp)) (r.laid hp) (.tup (.inl (.inl upd_same)) (h.mono (Ext.new (r.ex.back hp))))
theorem AnsD.lst {ds : List D} {vs : List V} (q : AnsD G P M F A (.lst ds) Q) (r : RelM G P M F A H) (h : Reps G F ds vs) {p : Ad} (hp : H p = none) : Q (.ref p) (upd H p (.lst vs)) :=
  q _ (upd F p (.lst vs)) _ (Ext.new (r.ex.back hp)) (r.laid hp) (.lst upd_same (h.mono (Ext.new (r.ex.back hp))))
theorem mulOk_of {t : Tx} {n : Int} (h : t.length * n.toNat ≤ LN ∧ -(2 ^ 63) ≤ n ∧ n < 2 ^ 63) : MulOk (toS t) n := by
  obtain ⟨h1, h2, h3⟩ := h
  have e : LN = 16777216 := rfl
  refine ⟨?_, fun a b => ?_, fun a b => ?_⟩
  · rw [Bool.or_eq_false_iff]
    exact ⟨decide_eq_false (by omega), decide_eq_false (by omega)⟩
  · rw [toS_len]
    have hn : 0 < n := by omega
    have k : (t.length : Int) ≤ (2 ^ 63 - 1) / n := by
      rw [Int.le_ediv_iff_mul_le hn]
      have z : ((t.length * n.toNat : Nat) : Int) ≤ (LN : Int) := by exact_mod_cast h1
      rw [Int.natCast_mul, Int.toNat_of_nonneg (by omega)] at z
      omega
    omega
  · rw [toS_len]
    show decide (_ > sizeLine) = false
    exact decide_eq_false (by rw [← LN_eq]; omega)
theorem mul_toS {t : Tx} {n : Int} : Txt.mul (toS t) n = toS (repT t n.toNat) := by
  have key : ∀ (k : Nat) (acc : Array Nat), (List.replicate k t.toArray).foldl (· ++ ·) acc = acc ++ (repT t k).toArray := by
    intro k
    induction k with
    | zero => intro acc; simp [repT]
    | succ k ih =>
      intro acc
      rw [List.replicate_succ, List.foldl_cons, ih]
      simp [repT, List.replicate_succ]
  unfold Txt.mul
  by_cases h1 : n < 1
  · rw [if_pos h1]
    have e : n.toNat = 0 := by omega
    rw [e]
    rfl
  · rw [if_neg h1]
    by_cases h2 : (n == 1 || (toS t).length == 0) = true
    · rw [if_pos h2]
      rw [Bool.or_eq_true, beq_iff_eq, beq_iff_eq, toS_len] at h2
      rcases h2 with h2 | h2
      · subst h2
        simp [repT]
      · have : t = [] := List.eq_nil_of_length_eq_zero h2
        subst this
        simp [repT]
    · rw [if_neg h2]
      have := key n.toNat #[]
      show (⟨(List.replicate n.toNat t.toArray).foldl (· ++ ·) #[]⟩ : Str) = _
      rw [this]
      simp [toS]
theorem repT_ok {t : Tx} {n : Nat} (h : okT t) (hl : t.length * n ≤ LN) : okT (repT t n) := by
  refine ⟨?_, fun c hc => ?_⟩
  · rw [← LN_eq]
    simp only [repT, List.length_flatten, List.map_replicate, List.sum_replicate_nat]
    rw [Nat.mul_comm]; exact hl
  · unfold repT at hc
    obtain ⟨l, h1, h2⟩ := List.mem_flatten.mp hc
    rw [List.eq_of_mem_replicate h1] at h2
    exact h.2 c h2
theorem bin_run {o : Bop} {x y z : D} (hK : G.K = X.K) (hz : binD o x y = some z) (rx : Rep G F x u) (ry : Rep G F y w) (ru : RelV u uv) (rw' : RelV w wv) (I : Inv X pins σ H s) (r : RelM G P M F A H) (q : AnsD G P M F A z Q) :
    wpAny (model X.prog X.w) X.A (binaryOp (bopOf o) uv wv) (EP X pins σ Q) X.xe s := by
  cases o <;> cases x <;> cases y <;> simp only [binD] at hz <;> (try cases hz)
  case add.int.int a b =>
    cases rx; cases ry
    exact op_add pins s σ H _ _ uv wv Q I ru rw' ⟨_, _, rfl, rfl, q.now r (.int _)⟩
  case add.str.str a b =>
    split at hz <;> cases hz
    rename_i hl
    obtain ⟨rfl, oa⟩ := rx.str_
    obtain ⟨rfl, ob⟩ := ry.str_
    exact op_add_str pins s σ H _ _ uv wv Q I ru rw' ⟨_, _, rfl, rfl, by rw [toS_len, toS_len, ← LN_eq]; exact hl, by rw [toS_app]; exact q.now r (.str _ (okT_app oa ob hl))⟩
  case add.tup.tup a b =>
    split at hz <;> cases hz
    rename_i hl
    obtain ⟨p, vs, rfl, hp, rp⟩ := rx.tup_
    obtain ⟨p2, ws, rfl, hp2, rp2⟩ := ry.tup_
    refine op_catA pins s σ H _ _ uv wv Q I ru rw' ⟨p, p2, vs, ws, rfl, rfl, hK ▸ ext_t r.ex hp, hK ▸ ext_t r.ex hp2, by rw [rp.length, rp2.length, ← LN_eq]; exact hl, fun e => ?_, fun e1 e2 => ?_, fun e1 e2 p hp => ?_⟩
    · have ea : a = [] := List.eq_nil_of_length_eq_zero (by rw [← rp.length, e]; rfl)
      subst ea
      exact q.now r (.tup hp2 rp2)
    · have ea : b = [] := List.eq_nil_of_length_eq_zero (by rw [← rp2.length, e2]; rfl)
      subst ea
      rw [List.append_nil] at q
      exact q.now r (.tup hp rp)
    · exact q.tup r (rp.append rp2) hp
  case sub.int.int a b =>
    cases rx; cases ry
    exact op_sub pins s σ H _ _ uv wv Q I ru rw' ⟨_, _, rfl, rfl, q.now r (.int _)⟩
  case mul.int.int a b =>
    split at hz <;> cases hz
    rename_i hl
    cases rx; cases ry
    exact op_mulW pins s σ H _ _ uv wv Q I ru rw' ⟨_, _, rfl, rfl, hl, q.now r (.int _)⟩
  case mul.str.int a n =>
    split at hz <;> cases hz
    rename_i hl
    obtain ⟨rfl, oa⟩ := rx.str_
    cases ry
    obtain ⟨t1, rfl⟩ := ru
    obtain ⟨t2, rfl⟩ := rw'
    exact SB.mul (mulOk_of hl) fun t' k => ⟨.str _, H, I.tok k, ⟨t', rfl⟩, by rw [mul_toS]; exact q.now r (.str _ (repT_ok oa hl.1))⟩
  case fdiv.int.int a b =>
    split at hz <;> cases hz
    rename_i hl
    cases rx; cases ry
    exact op_fdivA pins s σ H _ _ uv wv Q I ru rw' ⟨_, _, rfl, rfl, hl, q.now r (.int _)⟩
  case mod.int.int a b =>
    split at hz <;> cases hz
    rename_i hl
    cases rx; cases ry
    exact op_modN pins s σ H _ _ uv wv Q I ru rw' ⟨_, _, rfl, rfl, hl, q.now r (.int _)⟩
  case pow.int.int a b =>
    split at hz <;> cases hz
    rename_i hl
    cases rx; cases ry
    exact op_pow pins s σ H _ _ uv wv Q I ru rw' ⟨_, _, rfl, rfl, hl, q.now r (.int _)⟩
theorem aug_run {o : Bop} {x y z : D} (hK : G.K = X.K) (hz : binD o x y = some z) (ho : o = .add ∨ o = .sub) (hx : ∀ l, x ≠ .tup l) (rx : Rep G F x u) (ry : Rep G F y w) (ru : RelV u uv) (rw' : RelV w wv) (I : Inv X pins σ H s) (r : RelM G P M F A H) (q : AnsD G P M F A z Q) :
    wpAny (model X.prog X.w) X.A (inplaceOp (bopOf o) uv wv) (EP X pins σ Q) X.xe s := by
  rcases ho with rfl | rfl
  · cases x <;> cases y <;> simp only [binD] at hz <;> (try cases hz)
    case inl.int.int.refl a b =>
      cases rx; cases ry
      exact iop_add pins s σ H _ _ uv wv Q I ru rw' ⟨_, _, rfl, rfl, q.now r (.int _)⟩
    case inl.str.str a b =>
      split at hz <;> cases hz
      rename_i hl
      obtain ⟨rfl, oa⟩ := rx.str_
      obtain ⟨rfl, ob⟩ := ry.str_
      exact iop_add_str pins s σ H _ _ uv wv Q I ru rw' ⟨_, _, rfl, rfl, by rw [toS_len, toS_len, ← LN_eq]; exact hl, by rw [toS_app]; exact q.now r (.str _ (okT_app oa ob hl))⟩
    case inl.tup.tup a b => exact absurd rfl (hx a)
  · cases x <;> cases y <;> simp only [binD] at hz <;> (try cases hz)
    case inr.int.int.refl a b =>
      cases rx; cases ry
      exact iop_sub pins s σ H _ _ uv wv Q I ru rw' ⟨_, _, rfl, rfl, q.now r (.int _)⟩
end

/-! ### equality -/
mutual
def toPy : D → PyData
  | .non => .none
  | .bl b => .bool b
  | .int i => .int i
  | .str t => .str (toS t)
  | .lst xs => .list (toPys xs)
  | .tup xs => .tuple (toPys xs)
  | _ => .none
def toPys : List D → List PyData
  | [] => []
  | x :: xs => toPy x :: toPys xs
end
theorem toPys_map : ∀ xs : List D, toPys xs = xs.map toPy
  | [] => rfl
  | x :: xs => by rw [toPys, toPys_map xs]; rfl
mutual
theorem eqv_py : ∀ (n m : Nat) (d e : D), okEq n d = true → okEq m e = true → PyData.eqv (toPy d) (toPy e) = eqvD d e
  | n, m, .non, e, h, k => by cases e <;> first | (simp [toPy, PyData.eqv, eqvD]; done) | (cases m <;> simp [okEq] at k)
  | n, m, .bl b, e, h, k => by cases e <;> first | (simp [toPy, PyData.eqv, eqvD]; done) | (cases m <;> simp [okEq] at k)
  | n, m, .int b, e, h, k => by cases e <;> first | (simp [toPy, PyData.eqv, eqvD]; done) | (cases m <;> simp [okEq] at k)
  | n, m, .str b, e, h, k => by
    cases e <;> first | (simp [toPy, PyData.eqv, eqvD]; done) | (cases m <;> simp [okEq] at k; done) | skip
    rename_i s
    simp only [toPy, PyData.eqv, eqvD]
    by_cases z : b = s
    · subst z; simp
    · have : toS b ≠ toS s := fun q => z (toS_inj q)
      rw [beq_eq_false_iff_ne.mpr this, beq_eq_false_iff_ne.mpr z]
  | n, m, .lst xs, e, h, k => by
    cases e <;> first | (simp [toPy, PyData.eqv, eqvD]; done) | (cases m <;> simp [okEq] at k; done) | skip
    rename_i ys
    cases n with
    | zero => simp [okEq] at h
    | succ n =>
      cases m with
      | zero => simp [okEq] at k
      | succ m =>
        simp only [toPy, PyData.eqv, eqvD]
        exact eqv_pys n m xs ys (by simpa [okEq] using h) (by simpa [okEq] using k)
  | n, m, .tup xs, e, h, k => by
    cases e <;> first | (simp [toPy, PyData.eqv, eqvD]; done) | (cases m <;> simp [okEq] at k; done) | skip
    rename_i ys
    cases n with
    | zero => simp [okEq] at h
    | succ n =>
      cases m with
      | zero => simp [okEq] at k
      | succ m =>
        simp only [toPy, PyData.eqv, eqvD]
        exact eqv_pys n m xs ys (by simpa [okEq] using h) (by simpa [okEq] using k)
  | n, m, .obj _ _, e, h, k => by cases n <;> simp [okEq] at h
  | n, m, .scr _, e, h, k => by cases n <;> simp [okEq] at h
theorem eqv_pys : ∀ (n m : Nat) (xs ys : List D), (∀ x ∈ xs, okEq n x = true) → (∀ x ∈ ys, okEq m x = true) → PyData.eqvAll (toPys xs) (toPys ys) = eqvL xs ys
  | n, m, [], [], _, _ => by simp [toPys, PyData.eqvAll, eqvL]
  | n, m, [], y :: ys, _, _ => by simp [toPys, PyData.eqvAll, eqvL]
  | n, m, x :: xs, [], _, _ => by simp [toPys, PyData.eqvAll, eqvL]
  | n, m, x :: xs, y :: ys, h, k => by
    simp only [toPys, PyData.eqvAll, eqvL]
    rw [eqv_py n m x y (h x List.mem_cons_self) (k y List.mem_cons_self), eqv_pys n m xs ys (fun z hz => h z (List.mem_cons_of_mem _ hz)) (fun z hz => k z (List.mem_cons_of_mem _ hz))]
end
mutual
theorem dp_of {G : Ge} {F : Hp} : ∀ (n : Nat) (d : D) (v : V), okEq n d = true → Rep G F d v → Dp G.K F v (toPy d) ∧ PyData.canLay0 (toPy d) = true ∧ (toPy d).depth ≤ n
  | n, .non, _, _, .non => ⟨.non, by simp [toPy, PyData.canLay0], by simp [toPy, PyData.depth]⟩
  | n, .bl _, _, _, .bl b => ⟨.bl b, by simp [toPy, PyData.canLay0], by simp [toPy, PyData.depth]⟩
  | n, .int _, _, _, .int b => ⟨.int b, by simp [toPy, PyData.canLay0], by simp [toPy, PyData.depth]⟩
  | n, .str _, _, _, .str b h => ⟨.str _, by
      show PyData.canLay0 (.str (toS b)) = true
      simp only [PyData.canLay0, PyData.strOk, toS]
      simpa using h.2, by simp [toPy, PyData.depth]⟩
  | 0, .lst xs, _, h, _ => by simp [okEq] at h
  | n + 1, .lst xs, _, h, .lst ha r => by
    obtain ⟨h1, h2, h3⟩ := dps_of n xs _ (by simpa [okEq] using h) r
    exact ⟨.lst (.inl (.inl ha)) h1, by simpa [toPy, PyData.canLay0] using h2, by simp only [toPy, PyData.depth]; omega⟩
  | 0, .tup xs, _, h, _ => by simp [okEq] at h
  | n + 1, .tup xs, _, h, .tup ha r => by
    obtain ⟨h1, h2, h3⟩ := dps_of n xs _ (by simpa [okEq] using h) r
    exact ⟨.tup ha h1, by simpa [toPy, PyData.canLay0] using h2, by simp only [toPy, PyData.depth]; omega⟩
  | n, .obj _ _, _, h, _ => by cases n <;> simp [okEq] at h
  | n, .scr _, _, h, _ => by cases n <;> simp [okEq] at h
theorem dps_of {G : Ge} {F : Hp} : ∀ (n : Nat) (ds : List D) (vs : List V), (∀ x ∈ ds, okEq n x = true) → Reps G F ds vs → DpAll G.K F vs (toPys ds) ∧ PyData.canLayAll0 (toPys ds) = true ∧ PyData.depthAll (toPys ds) ≤ n
  | n, [], _, _, .nil => ⟨.nil, by simp [toPys, PyData.canLayAll0], by simp [toPys, PyData.depthAll]⟩
  | n, d :: ds, _, h, .cons r t => by
    obtain ⟨h1, h2, h3⟩ := dp_of n d _ (h d List.mem_cons_self) r
    obtain ⟨k1, k2, k3⟩ := dps_of n ds _ (fun x hx => h x (List.mem_cons_of_mem _ hx)) t
    exact ⟨.cons h1 k1, by simp [toPys, PyData.canLayAll0, h2, k2], by simp only [toPys, PyData.depthAll]; omega⟩
end
mutual
theorem dp_ext {K : PySem.W.Frag} {F F' : Hp} (e : Ext F F') : ∀ {v : V} {d : PyData}, Dp K F v d → Dp K F' v d
  | _, _, .non => .non
  | _, _, .bl b => .bl b
  | _, _, .int b => .int b
  | _, _, .str b => .str b
  | _, _, .lst h r => .lst (ext_l e h) (dps_ext e r)
  | _, _, .tup h r => .tup (ext_t e h) (dps_ext e r)
theorem dps_ext {K : PySem.W.Frag} {F F' : Hp} (e : Ext F F') : ∀ {v : List V} {d : List PyData}, DpAll K F v d → DpAll K F' v d
  | _, _, .nil => .nil
  | _, _, .cons h r => .cons (dp_ext e h) (dps_ext e r)
end
def copOf : Cop → CmpOp
  | .eq => .Eq
  | .ne => .NotEq
  | .lt => .Lt
  | .le => .LtE
  | .gt => .Gt
  | .ge => .GtE
  | .isN => .Is
  | .notN => .IsNot
  | .inn => .In
  | .notin => .NotIn
theorem flat_rep {G : Ge} {F : Hp} {d : D} {v : V} (h : flatD d = true) (r : Rep G F d v) : flatV v = true := by
  cases r <;> first | rfl | (simp [flatD] at h)
theorem eqV_rep {G : Ge} {F : Hp} {d e : D} {v w : V} (h : flatD d = true) (k : flatD e = true) (r : Rep G F d v) (q : Rep G F e w) : eqV v w = eqvD d e := by
  cases r <;> cases q <;> first | (simp [eqV, eqvD]; done) | (simp [flatD] at h; done) | (simp [flatD] at k; done) | skip
  rename_i a _ b _
  simp only [eqV, eqvD]
  by_cases z : a = b
  · subst z; simp
  · have : toS a ≠ toS b := fun q => z (toS_inj q)
    rw [beq_eq_false_iff_ne.mpr this, beq_eq_false_iff_ne.mpr z]
theorem inV_rep {G : Ge} {F : Hp} {d : D} {w : V} (h : flatD d = true) (r : Rep G F d w) : ∀ {xs : List D} {vs : List V}, xs.all flatD = true → Reps G F xs vs → vs.all flatV = true ∧ inV w vs = xs.any fun x => eqvD x d
  | [], _, _, .nil => ⟨rfl, rfl⟩
  | x :: xs, _, k, .cons rx rt => by
    rw [List.all_cons, Bool.and_eq_true] at k
    obtain ⟨h1, h2⟩ := inV_rep h r k.2 rt
    refine ⟨by rw [List.all_cons, flat_rep k.1 rx, h1]; rfl, ?_⟩
    unfold inV at h2 ⊢
    rw [List.any_cons, List.any_cons, h2, eqV_rep k.1 h rx r]

section
variable {X : Cx} {G : Ge} {P : Hp} {M : List D} {F : Hp} {A : List Ad} {σ : St'} {H : Hp} {pins : List (Ad × Obj)} {s : Shared} {Q : VK} {u w : V} {uv wv : Value}
theorem fin_ep {b : Bool} (I : Inv X pins σ H s) (q : Q (.bl b) H) : EP X pins σ Q (.bool b) s := ⟨.bl b, H, I, rfl, q⟩
theorem seq_rep {x : D} {xs : List D} (hK : G.K = X.K) (h : seqD x = some xs) (rx : Rep G F x u) (r : Ext F H) : ∃ p vs, u = .ref p ∧ (SqL X.K H p vs ∨ SqT X.K H p vs) ∧ Reps G F xs vs := by
  cases x <;> simp only [seqD] at h <;> (try cases h)
  case lst.refl =>
    obtain ⟨a, vs, rfl, h1, h2⟩ := rx.lst_
    exact ⟨a, vs, rfl, .inl (SqL.of (r _ _ h1)), h2⟩
  case tup.refl =>
    obtain ⟨a, vs, rfl, h1, h2⟩ := rx.tup_
    exact ⟨a, vs, rfl, .inr (hK ▸ ext_t r h1), h2⟩
theorem cmp_run {o : Cop} {x y : D} {b : Bool} (hK : G.K = X.K) (hu : X.A.units + 64 < cLine) (hz : cmpS o (.d x) (.d y) = some b) (rx : Rep G F x u) (ry : Rep G F y w) (ru : RelV u uv) (rw' : RelV w wv) (I : Inv X pins σ H s) (r : Ext F H) (q : Q (.bl b) H) :
    wpAny (model X.prog X.w) X.A (compareOp (copOf o) uv wv) (EP X pins σ Q) X.xe s := by
  have eqs : ∀ o', (o' = Cop.eq ∨ o' = .ne) → o = o' → wpAny (model X.prog X.w) X.A (compareOp (copOf o) uv wv) (EP X pins σ Q) X.xe s := by
    intro o' ho e
    subst e
    rcases ho with rfl | rfl
    · simp only [cmpS, cmpD] at hz
      split at hz <;> cases hz
      rename_i hh
      obtain ⟨h1, h2⟩ := Bool.and_eq_true_iff.mp hh
      obtain ⟨d1, c1, k1⟩ := dp_of 60 x u h1 rx
      obtain ⟨d2, c2, k2⟩ := dp_of 60 y w h2 ry
      refine op_eqD hu pins s σ H u w uv wv Q I ru rw' ⟨_, _, hK ▸ dp_ext r d1, hK ▸ dp_ext r d2, ?_, ?_, ?_⟩
      · unfold SeqAt.shaped; rw [c1, decide_eq_true (by omega)]; rfl
      · unfold SeqAt.shaped; rw [c2, decide_eq_true (by omega)]; rfl
      · rw [eqv_py 60 60 x y h1 h2]; exact q
    · simp only [cmpS, cmpD] at hz
      split at hz <;> cases hz
      rename_i hh
      obtain ⟨h1, h2⟩ := Bool.and_eq_true_iff.mp hh
      obtain ⟨d1, c1, k1⟩ := dp_of 60 x u h1 rx
      obtain ⟨d2, c2, k2⟩ := dp_of 60 y w h2 ry
      refine op_neD hu pins s σ H u w uv wv Q I ru rw' ⟨_, _, hK ▸ dp_ext r d1, hK ▸ dp_ext r d2, ?_, ?_, ?_⟩
      · unfold SeqAt.shaped; rw [c1, decide_eq_true (by omega)]; rfl
      · unfold SeqAt.shaped; rw [c2, decide_eq_true (by omega)]; rfl
      · rw [eqv_py 60 60 x y h1 h2]; exact q
  have ins : ∀ bb, inD x y = some bb → (Q (.bl bb) H → wpAny (model X.prog X.w) X.A (compareOp .In uv wv) (EP X pins σ Q) X.xe s) ∧ (Q (.bl !bb) H → wpAny (model X.prog X.w) X.A (compareOp .NotIn uv wv) (EP X pins σ Q) X.xe s) := by
    intro bb hb
    unfold inD at hb
    split at hb
    · rename_i t
      split at hb <;> cases hb
      rename_i c
      obtain ⟨rfl, oa⟩ := rx.str_
      obtain ⟨rfl, ob⟩ := ry.str_
      have e : decide (c ∈ (toS t).cps.toList) = t.contains c := by rw [toS_cps]; by_cases z : c ∈ t <;> simp [z]
      exact ⟨fun q => op_in_sign pins s σ H _ _ uv wv Q I ru rw' ⟨c, toS t, rfl, rfl, by rw [e]; exact q⟩, fun q => op_notIn_sign pins s σ H _ _ uv wv Q I ru rw' ⟨c, toS t, rfl, rfl, by rw [e]; exact q⟩⟩
    · split at hb
      · rename_i xs hs
        split at hb <;> cases hb
        rename_i hh
        obtain ⟨h1, h2⟩ := Bool.and_eq_true_iff.mp hh
        obtain ⟨p, vs, rfl, hp, hr⟩ := seq_rep hK hs ry r
        obtain ⟨k1, k2⟩ := inV_rep h1 rx h2 hr
        refine ⟨fun q => op_in_seq pins s σ H _ _ uv wv Q I ru rw' ⟨p, vs, rfl, hp, flat_rep h1 rx, k1, ?_⟩, fun q => op_notIn_seq pins s σ H _ _ uv wv Q I ru rw' ⟨p, vs, rfl, hp, flat_rep h1 rx, k1, ?_⟩⟩
        · rw [if_neg Bool.false_ne_true, k2]; exact q
        · rw [if_pos rfl, k2]; exact q
      · cases hb
  cases o
  case eq => exact eqs .eq (.inl rfl) rfl
  case ne => exact eqs .ne (.inr rfl) rfl
  case inn =>
    have hz' : inD x y = some b := by simpa [cmpS, cmpD] using hz
    exact (ins b hz').1 q
  case notin =>
    have hz' : (inD x y).map (!·) = some b := by simpa [cmpS, cmpD] using hz
    obtain ⟨bb, h1, h2⟩ := Option.map_eq_some_iff.mp hz'
    subst h2
    exact (ins bb h1).2 q
  case isN =>
    cases x <;> cases y <;> simp only [cmpS, cmpD] at hz <;> (try cases hz)
    case bl.bl.refl a b =>
      cases rx; cases ry
      exact op_isBl pins s σ H _ _ uv wv Q I ru rw' ⟨a, b, rfl, rfl, q⟩
    all_goals
      cases ry
      refine op_isN pins s σ H _ _ uv wv Q I ru rw' ⟨rfl, ?_⟩
      cases rx <;> exact q
  case notN =>
    cases x <;> cases y <;> simp only [cmpS, cmpD] at hz <;> (try cases hz)
    case bl.bl.refl a b =>
      cases rx; cases ry
      exact op_notBl pins s σ H _ _ uv wv Q I ru rw' ⟨a, b, rfl, rfl, q⟩
    all_goals
      cases ry
      refine op_notN pins s σ H _ _ uv wv Q I ru rw' ⟨rfl, ?_⟩
      cases rx <;> exact q
  case lt =>
    cases x <;> cases y <;> simp only [cmpS, cmpD] at hz <;> (try cases hz)
    cases rx; cases ry
    exact op_lt pins s σ H _ _ uv wv Q I ru rw' ⟨_, _, rfl, rfl, q⟩
  case le =>
    cases x <;> cases y <;> simp only [cmpS, cmpD] at hz <;> (try cases hz)
    cases rx; cases ry
    exact op_le pins s σ H _ _ uv wv Q I ru rw' ⟨_, _, rfl, rfl, q⟩
  case gt =>
    cases x <;> cases y <;> simp only [cmpS, cmpD] at hz <;> (try cases hz)
    cases rx; cases ry
    exact op_gt pins s σ H _ _ uv wv Q I ru rw' ⟨_, _, rfl, rfl, q⟩
  case ge =>
    cases x <;> cases y <;> simp only [cmpS, cmpD] at hz <;> (try cases hz)
    cases rx; cases ry
    exact op_ge pins s σ H _ _ uv wv Q I ru rw' ⟨_, _, rfl, rfl, q⟩
end
end GF

set_option Elab.async false
set_option linter.all false
set_option maxRecDepth 100000
set_option autoImplicit false
set_option maxHeartbeats 1000000
namespace GF
open PySem PySem.Spec PyProof.Rows L2

abbrev RepSs (G : Ge) (F : Hp) (A : List Ad) (eA : EA) : List Sl → List V → Prop := Paired (RepS G F A eA)
theorem RepSs.mono {G : Ge} {F F' : Hp} {A A' : List Ad} {eA : EA} (e : Ext F F') (p : A <+: A') : ∀ {x : List Sl} {v : List V}, RepSs G F A eA x v → RepSs G F' A' eA x v
  | _, _, .nil => .nil
  | _, _, .cons h t => .cons (h.mono e p) (RepSs.mono e p t)
theorem reps_of {G : Ge} {F : Hp} {A : List Ad} {eA : EA} : ∀ {xs : List Sl} {vs : List V} {ds : List D}, datas xs = some ds → RepSs G F A eA xs vs → Reps G F ds vs
  | [], _, _, h, .nil => by cases h; exact .nil
  | .d x :: xs, _, _, h, .cons r t => by
    obtain ⟨ds, h1, h2⟩ := Option.map_eq_some_iff.mp (show (datas xs).map (x :: ·) = some _ from h)
    subst h2
    exact .cons r (reps_of h1 t)
  | .ref _ :: _, _, _, h, _ => by cases h
  | .exn _ _ :: _, _, _, h, _ => by cases h
section
variable {X : Cx} {G : Ge} {P : Hp} {M : List D} {F : Hp} {A : List Ad} {eA : EA} {σ : St'} {H : Hp} {pins : List (Ad × Obj)} {s : Shared} {Q : VK} {u w : V} {uv wv : Value}
theorem RelM.at_ (r : RelM G P M F A H) {j : Nat} {a : Ad} {xs : List D} (h1 : A[j]? = some a) (h2 : M[j]? = some (.lst xs)) : ∃ vs, H a = some (.lst vs) ∧ Reps G F xs vs := (r.cells j a _ h1 h2).2
theorem RelM.atO (r : RelM G P M F A H) {j : Nat} {a : Ad} {c : Nat} {fs : List D} (h1 : A[j]? = some a) (h2 : M[j]? = some (.obj c fs)) : ∃ dx fv vs, H a = some (.ins (G.cad c) dx fv) ∧ fv.map (·.1) = (G.nms c).take fs.length ∧ fv.map (·.2) = vs ∧ Reps G F fs vs := (r.cells j a _ h1 h2).2
theorem seqS_rep {x : Sl} {xs : List D} (hK : G.K = X.K) (h : seqS M x = some xs) (rx : RepS G F A eA x u) (r : RelM G P M F A H) : ∃ p vs, u = .ref p ∧ (SqL X.K H p vs ∨ SqT X.K H p vs) ∧ Reps G F xs vs := by
  unfold seqS at h
  split at h
  · cases h
    obtain ⟨a, vs, rfl, h1, h2⟩ := Rep.lst_ rx
    exact ⟨a, vs, rfl, .inl (SqL.of (r.ex _ _ h1)), h2⟩
  · cases h
    obtain ⟨a, vs, rfl, h1, h2⟩ := Rep.tup_ rx
    exact ⟨a, vs, rfl, .inr (hK ▸ ext_t r.ex h1), h2⟩
  · cases h
    obtain ⟨a, rfl, h1⟩ := Rep.scr_ rx
    exact ⟨a, _, rfl, .inl (hK ▸ ext_l r.ex h1), Reps.of_ints _⟩
  · rename_i j
    split at h <;> cases h
    rename_i xs h2
    obtain ⟨a, ha, rfl⟩ := rx
    obtain ⟨vs, h3, h4⟩ := r.at_ ha h2
    exact ⟨a, vs, rfl, .inl (SqL.of h3), h4⟩
  · cases h
theorem lstS_rep {x : Sl} {xs : List D} (hK : G.K = X.K) (h : lstS M x = some xs) (rx : RepS G F A eA x u) (r : RelM G P M F A H) : ∃ p vs, u = .ref p ∧ SqL X.K H p vs ∧ Reps G F xs vs := by
  unfold lstS at h
  split at h
  · cases h
    obtain ⟨a, vs, rfl, h1, h2⟩ := Rep.lst_ rx
    exact ⟨a, vs, rfl, SqL.of (r.ex _ _ h1), h2⟩
  · cases h
    obtain ⟨a, rfl, h1⟩ := Rep.scr_ rx
    exact ⟨a, _, rfl, hK ▸ ext_l r.ex h1, Reps.of_ints _⟩
  · rename_i j
    split at h <;> cases h
    rename_i xs h2
    obtain ⟨a, ha, rfl⟩ := rx
    obtain ⟨vs, h3, h4⟩ := r.at_ ha h2
    exact ⟨a, vs, rfl, SqL.of h3, h4⟩
  · cases h

/-! ### places -/
def rIxG (G : Ge) (P : Hp) (eA : EA) : R2 := fun u w H Q => ∃ (M : List D) (F : Hp) (A : List Ad) (x : Sl) (i : Int) (z : D), RepS G F A eA x u ∧ w = .int i ∧ RelM G P M F A H ∧ ixS M x i = some z ∧ AnsD G P M F A z Q
theorem ix_run (hK : G.K = X.K) : IxR X (rIxG G P eA) := by
  intro value slice pins s σ H u w uv wv Q I ru rw' h hs
  obtain ⟨M, F, A, x, i, z, rx, rfl, r, hz, q⟩ := h
  unfold ixS at hz
  split at hz
  · rename_i t
    obtain ⟨c, h1, h2⟩ := Option.map_eq_some_iff.mp hz
    subst h2
    obtain ⟨rfl, ot⟩ := Rep.str_ rx
    have hm : c ∈ t := by
      unfold GF.atI at h1
      cases e : GF.ixN t.length i with
      | none => rw [e] at h1; cases h1
      | some j => rw [e] at h1; exact List.mem_of_getElem? h1
    exact ix_str value slice pins s σ H _ _ uv wv Q I ru rw' ⟨toS t, i, c, rfl, rfl, by rw [toS_len]; exact ot.1, by rw [toS_cps]; exact h1, q.now r (.str [c] (okT_one ot hm))⟩ hs
  · rename_i x' hne
    obtain ⟨xs, h1, h2⟩ := Option.bind_eq_some_iff.mp hz
    obtain ⟨p, vs, rfl, hp, hr⟩ := seqS_rep hK h1 rx r
    obtain ⟨v, h3, h4⟩ := hr.at h2
    rcases hp with hp | hp
    · exact ix_list value slice pins s σ H _ _ uv wv Q I ru rw' ⟨p, vs, i, v, rfl, rfl, hp, h3, q.now r h4⟩ hs
    · exact ix_tup value slice pins s σ H _ _ uv wv Q I ru rw' ⟨p, vs, i, v, rfl, rfl, hp, h3, q.now r h4⟩ hs

/-! ### calls of built-ins -/
theorem vals0 {us : List Value} (r : Vals ([] : List V) us) : us = [] := Vals.zero r
def bltNeeds : Blt → Bool
  | .len => false
  | .int => false
  | .bool => false
  | .abs => false
  | .tuple => false
  | .str => false
  | .gcd => false
  | _ => true
def bltV : Blt → Value
  | .len => .builtin "len"
  | .int => .type "int"
  | .bool => .type "bool"
  | .abs => .builtin "abs"
  | .min2 => .builtin "min"
  | .max2 => .builtin "max"
  | .minl => .builtin "min"
  | .maxl => .builtin "max"
  | .sum => .builtin "sum"
  | .tuple => .type "tuple"
  | .str => .type "str"
  | .all => .builtin "all"
  | .any => .builtin "any"
  | .gcd => .builtin "math.gcd"
theorem intsD_eq : ∀ {xs : List D} {ns : List Int}, intsD xs = some ns → xs = ns.map .int
  | [], _, h => by cases h; rfl
  | .int i :: r, _, h => by
    obtain ⟨ns, h1, h2⟩ := Option.map_eq_some_iff.mp (show (intsD r).map (i :: ·) = some _ from h)
    subst h2
    rw [intsD_eq h1]; rfl
  | .non :: _, _, h => by cases h
  | .bl _ :: _, _, h => by cases h
  | .str _ :: _, _, h => by cases h
  | .lst _ :: _, _, h => by cases h
  | .tup _ :: _, _, h => by cases h
  | .obj _ _ :: _, _, h => by cases h
  | .scr _ :: _, _, h => by cases h
theorem blsD_eq : ∀ {xs : List D} {ns : List Bool}, blsD xs = some ns → xs = ns.map .bl
  | [], _, h => by cases h; rfl
  | .bl i :: r, _, h => by
    obtain ⟨ns, h1, h2⟩ := Option.map_eq_some_iff.mp (show (blsD r).map (i :: ·) = some _ from h)
    subst h2
    rw [blsD_eq h1]; rfl
  | .non :: _, _, h => by cases h
  | .int _ :: _, _, h => by cases h
  | .str _ :: _, _, h => by cases h
  | .lst _ :: _, _, h => by cases h
  | .tup _ :: _, _, h => by cases h
  | .obj _ _ :: _, _, h => by cases h
  | .scr _ :: _, _, h => by cases h
theorem strsD_eq : ∀ {xs : List D} {ns : List Tx}, strsD xs = some ns → xs = ns.map .str
  | [], _, h => by cases h; rfl
  | .str i :: r, _, h => by
    obtain ⟨ns, h1, h2⟩ := Option.map_eq_some_iff.mp (show (strsD r).map (i :: ·) = some _ from h)
    subst h2
    rw [strsD_eq h1]; rfl
  | .non :: _, _, h => by cases h
  | .int _ :: _, _, h => by cases h
  | .bl _ :: _, _, h => by cases h
  | .lst _ :: _, _, h => by cases h
  | .tup _ :: _, _, h => by cases h
  | .obj _ _ :: _, _, h => by cases h
  | .scr _ :: _, _, h => by cases h
theorem Reps.bls : ∀ {ns : List Bool} {vs : List V}, Reps G F (ns.map D.bl) vs → vs = ns.map V.bl
  | [], _, .nil => rfl
  | _ :: ns, _, .cons (.bl _) t => by rw [Reps.bls (ns := ns) t]; rfl
theorem Reps.strs : ∀ {ns : List Tx} {vs : List V}, Reps G F (ns.map D.str) vs → vs = (ns.map toS).map V.str ∧ ∀ t ∈ ns, okT t
  | [], _, .nil => ⟨rfl, fun _ h => by cases h⟩
  | n :: ns, _, .cons (.str _ o) t => by
    obtain ⟨h1, h2⟩ := Reps.strs (ns := ns) t
    refine ⟨by rw [h1]; rfl, fun t ht => ?_⟩
    rcases List.mem_cons.mp ht with rfl | z
    · exact o
    · exact h2 t z
theorem minL_spec : ∀ (ns : List Int), ns ≠ [] → minL ns ∈ ns ∧ ∀ y ∈ ns, minL ns ≤ y
  | [], h => absurd rfl h
  | [a], _ => ⟨by simp [minL], fun y hy => by rw [List.mem_singleton] at hy; subst hy; exact Int.le_refl _⟩
  | a :: b :: r, _ => by
    obtain ⟨h1, h2⟩ := minL_spec (b :: r) (by simp)
    show (if minL (b :: r) < a then minL (b :: r) else a) ∈ a :: b :: r ∧ ∀ y ∈ a :: b :: r, (if minL (b :: r) < a then minL (b :: r) else a) ≤ y
    split
    · refine ⟨List.mem_cons_of_mem _ h1, fun y hy => ?_⟩
      rcases List.mem_cons.mp hy with rfl | z
      · omega
      · exact h2 y z
    · refine ⟨List.mem_cons_self, fun y hy => ?_⟩
      rcases List.mem_cons.mp hy with rfl | z
      · exact Int.le_refl _
      · have := h2 y z; omega
theorem maxL_spec : ∀ (ns : List Int), ns ≠ [] → maxL ns ∈ ns ∧ ∀ y ∈ ns, y ≤ maxL ns
  | [], h => absurd rfl h
  | [a], _ => ⟨by simp [maxL], fun y hy => by rw [List.mem_singleton] at hy; subst hy; exact Int.le_refl _⟩
  | a :: b :: r, _ => by
    obtain ⟨h1, h2⟩ := maxL_spec (b :: r) (by simp)
    show (if a < maxL (b :: r) then maxL (b :: r) else a) ∈ a :: b :: r ∧ ∀ y ∈ a :: b :: r, y ≤ (if a < maxL (b :: r) then maxL (b :: r) else a)
    split
    · refine ⟨List.mem_cons_of_mem _ h1, fun y hy => ?_⟩
      rcases List.mem_cons.mp hy with rfl | z
      · omega
      · exact h2 y z
    · refine ⟨List.mem_cons_self, fun y hy => ?_⟩
      rcases List.mem_cons.mp hy with rfl | z
      · exact Int.le_refl _
      · have := h2 y z; omega
/-- sum of a tuple of whole numbers -/
theorem iter_intTup {prog : Program} {w : World} {A : Around} {E : Value → Shared → Prop} {s : Shared} {l : Ad} {xs : Array (Int × Tok)} {Q : Value → Shared → Prop} (hl : s.heap.IsTuple l (intItems xs))
    (h : ∀ s₂ : Shared, s₂ = { s with heap := s.heap.push { cls := .type "tuple_iterator", data := .fields #[.ref l, .int 0 0] } } →
      (s₂.heap.IsTupleIter s.heap.objs.size l 0 ∧ s₂.heap.IsTuple l (intItems xs)) → (∀ b ∈ [s.heap.objs.size, l], b < s₂.heap.objs.size) → l ≠ s.heap.objs.size → Q (.ref s.heap.objs.size) s₂) :
    wpAny (model prog w) A (pyIter (.ref l)) Q E s := by
  have hlt : l < s.heap.objs.size := by obtain ⟨_, e, _⟩ := hl; exact Heap.lt_size e
  refine wpAny_pyIter_tuple hl (h _ rfl ⟨⟨_, Heap.get?_push_size _ rfl, rfl, rfl⟩, hl.push _⟩ (fun b hb => ?_) (Nat.ne_of_lt hlt))
  show b < (s.heap.push _).objs.size
  rw [Heap.size_push]
  rcases List.mem_cons.mp hb with rfl | hb
  · exact Nat.lt_succ_self _
  · rcases List.mem_cons.mp hb with rfl | hb
    · exact Nat.lt_succ_of_lt hlt
    · cases hb
theorem sum_rawT {prog : Program} {w : World} {A : Around} {E : Value → Shared → Prop} {s : Shared} {l : Ad} {its : List Value} {ns : List Int} {Q : Value → Shared → Prop} (hh : A.handled = none) (hl : s.heap.IsTuple l its.toArray) (hi : IntsAre its ns)
    (h : ∀ h' tk t', (∀ b o, s.heap.get? b = some o → h'.get? b = some o) → Q (.int ns.sum t') { s with heap := h', toks := tk }) : wpAny (model prog w) A (call (.builtin "sum") [.ref l]) Q E s := by
  obtain ⟨xs, e⟩ := hi.allInts.items
  have hn : numsOf (intItems xs).toList = ns := by rw [← e]; exact hi.numsOf
  rw [nums_intItems] at hn
  rw [e] at hl
  refine call_sum_walkG (iter_intTup hl fun s₂ e st hfp hlI => ?_)
  subst e
  refine ⟨_, _, _, _, _, _, numAt xs, rfl, Walks.tuple (A := A.in1) hh _ l hlI (intItems xs), st, hfp, (fun _ _ => intItems_at), fun h' tk t' hk => ?_⟩
  have := h h' tk t' fun b o e => by
    refine hk b o (fun hm => ?_) (Heap.get?_push_of_some _ e)
    rcases List.mem_cons.mp hm with e1 | hm
    · exact absurd (e1 ▸ Heap.lt_size e) (Nat.lt_irrefl _)
    · cases hm
  rw [← hn] at this
  have e : List.take xs.size (List.map (fun x => x.fst) xs.toList) = List.map (fun x => x.fst) xs.toList := List.take_of_length_le (by simp)
  simpa [intItems, preSum_eq, e] using this
theorem cr_sumT (hc : X.calm = true) : CallR X (.builtin "sum") (fun vs H Q => ∃ (a : Ad) (ns : List Int), vs = [V.ref a] ∧ SqT X.K H a (ns.map V.int) ∧ Q (.int ns.sum) H) := by
  intro pins s σ H vs us Q I r h
  obtain ⟨a, ns, rfl, hs, q⟩ := h
  obtain ⟨its, rv, ht, _⟩ := I.tuple hs
  rw [Vals.ref1 r]
  exact sum_rawT (I.ok.hd hc) (show s.heap.IsTuple a its.toArray from ht) rv.ints fun h' tk t' hk => ⟨.int _, H, I.kept hk, ⟨_, rfl⟩, q⟩
theorem decT_eq (i : Int) : (toString i : Str) = toS (decT i) := by
  show Str.ofString (toString i) = _
  rw [Str.ofString_eq_toList]; rfl
theorem decT_ok {i : Int} (h : i.natAbs.log2 < 1920) : okT (decT i) := by
  have h1 : (toString i : Str).length ≤ sizeLine := int_text_fits h
  rw [decT_eq, toS_len] at h1
  refine ⟨h1, fun c hc => ?_⟩
  unfold decT at hc
  obtain ⟨ch, _, rfl⟩ := List.mem_map.mp hc
  have := ch.valid
  show ch.val.toNat < 0x110000
  rcases this with z | z
  · have : ch.val.toNat < 0xd800 := z
    omega
  · exact z.2
theorem fin_ep2 {v : V} {u : Value} {tk : Nat} (I : Inv X pins σ H s) (r : RelV v u) (q : Q v H) : EP X pins σ Q u { s with toks := tk } := ⟨v, H, I.tok tk, r, q⟩
def rBlt (G : Ge) (P : Hp) (eA : EA) (b : Blt) : List V → Hp → VK → Prop := fun vs H Q => ∃ (M : List D) (F : Hp) (A : List Ad) (xs : List Sl) (z : D), RepSs G F A eA xs vs ∧ RelM G P M F A H ∧ bltS M b xs = some z ∧ AnsD G P M F A z Q
theorem blt_run {b : Blt} (hK : G.K = X.K) (hc : bltNeeds b = true → X.calm = true) : CallR X (bltV b) (rBlt G P eA b) := by
  intro pins s σ H vs us Q I rus h
  obtain ⟨M, F, A, xs, z, rs, r, hz, q⟩ := h
  unfold bltS at hz
  split at hz
  · cases hz
    cases rs with | cons r1 rt =>
    cases rt
    obtain ⟨rfl, ot⟩ := Rep.str_ r1
    exact call_len_str pins s σ H _ us Q I rus ⟨_, rfl, by rw [toS_len]; exact ot.1, by rw [toS_len]; exact q.now r (.int _)⟩
  · obtain ⟨ys, h1, h2⟩ := Option.map_eq_some_iff.mp hz
    subst h2
    cases rs with | cons r1 rt =>
    cases rt
    obtain ⟨p, ws, rfl, hp, hr⟩ := seqS_rep hK h1 r1 r
    exact call_len_seq pins s σ H _ us Q I rus ⟨p, ws, rfl, hp, by rw [hr.length]; exact q.now r (.int _)⟩
  · cases hz
    cases rs with | cons r1 rt =>
    cases rt
    cases r1
    exact call_int1 pins s σ H _ us Q I rus (.inl ⟨_, rfl, q.now r (.int _)⟩)
  · cases hz
    cases rs with | cons r1 rt =>
    cases rt
    cases r1
    exact call_int1 pins s σ H _ us Q I rus (.inr ⟨_, rfl, q.now r (.int _)⟩)
  · cases hz
    cases rs with | cons r1 rt =>
    cases rt
    cases r1
    exact call_bool1 pins s σ H _ us Q I rus (.inl ⟨_, rfl, q.now r (.bl _)⟩)
  · cases hz
    cases rs with | cons r1 rt =>
    cases rt
    cases r1
    exact call_bool1 pins s σ H _ us Q I rus (.inr ⟨_, rfl, q.now r (.bl _)⟩)
  · cases hz
    cases rs with | cons r1 rt =>
    cases rt
    cases r1
    exact call_abs pins s σ H _ us Q I rus ⟨_, rfl, q.now r (.int _)⟩
  · cases hz
    cases rs with | cons r1 rt =>
    cases rt with | cons r2 rt =>
    cases rt
    cases r1; cases r2
    exact call_min2 (hc rfl) pins s σ H _ us Q I rus ⟨_, _, rfl, q.now r (.int _)⟩
  · cases hz
    cases rs with | cons r1 rt =>
    cases rt with | cons r2 rt =>
    cases rt
    cases r1; cases r2
    exact call_max2 (hc rfl) pins s σ H _ us Q I rus ⟨_, _, rfl, q.now r (.int _)⟩
  · cases hz
    cases rs with | cons r1 rt =>
    cases rt with | cons r2 rt =>
    cases rt
    cases r1; cases r2
    exact cr_gcd pins s σ H _ us Q I rus ⟨_, _, rfl, q.now r (.int _)⟩
  · obtain ⟨ys, h1, h2⟩ := Option.bind_eq_some_iff.mp hz
    obtain ⟨ns, h3, h4⟩ := Option.map_eq_some_iff.mp h2
    subst h4
    have e := intsD_eq h3
    subst e
    cases rs with | cons r1 rt =>
    cases rt
    obtain ⟨p, ws, rfl, hp, hr⟩ := seqS_rep hK h1 r1 r
    have e := hr.ints
    subst e
    rcases hp with hp | hp
    · exact cr_sum (hc rfl) pins s σ H _ us Q I rus ⟨p, ns, rfl, hp, q.now r (.int _)⟩
    · exact cr_sumT (hc rfl) pins s σ H _ us Q I rus ⟨p, ns, rfl, hp, q.now r (.int _)⟩
  · obtain ⟨ys, h1, h2⟩ := Option.bind_eq_some_iff.mp hz
    obtain ⟨ns, h3, h4⟩ := Option.bind_eq_some_iff.mp h2
    split at h4 <;> cases h4
    rename_i hn
    have e := intsD_eq h3
    subst e
    cases rs with | cons r1 rt =>
    cases rt
    obtain ⟨p, ws, rfl, hp, hr⟩ := lstS_rep hK h1 r1 r
    have e := hr.ints
    subst e
    refine cr_min (hc rfl) pins s σ H _ us Q I rus ⟨p, ns, rfl, hp, by omega, fun m hm hle => ?_⟩
    obtain ⟨k1, k2⟩ := minL_spec ns (fun z => hn (by rw [z]; rfl))
    have e : m = minL ns := by have a := hle _ k1; have b := k2 _ hm; omega
    rw [e]; exact q.now r (.int _)
  · obtain ⟨ys, h1, h2⟩ := Option.bind_eq_some_iff.mp hz
    obtain ⟨ns, h3, h4⟩ := Option.bind_eq_some_iff.mp h2
    split at h4 <;> cases h4
    rename_i hn
    have e := intsD_eq h3
    subst e
    cases rs with | cons r1 rt =>
    cases rt
    obtain ⟨p, ws, rfl, hp, hr⟩ := lstS_rep hK h1 r1 r
    have e := hr.ints
    subst e
    refine cr_max (hc rfl) pins s σ H _ us Q I rus ⟨p, ns, rfl, hp, by omega, fun m hm hle => ?_⟩
    obtain ⟨k1, k2⟩ := maxL_spec ns (fun z => hn (by rw [z]; rfl))
    have e : m = maxL ns := by have a := hle _ k1; have b := k2 _ hm; omega
    rw [e]; exact q.now r (.int _)
  · obtain ⟨ys, h1, h2⟩ := Option.map_eq_some_iff.mp hz
    subst h2
    cases rs with | cons r1 rt =>
    cases rt
    obtain ⟨p, ws, rfl, hp, hr⟩ := seqS_rep hK h1 r1 r
    rcases hp with hp | hp
    · exact call_tuple_of pins s σ H _ us Q I rus ⟨p, ws, rfl, .inl ⟨hp, fun l hl => q.tup r hr hl⟩⟩
    · refine call_tuple_of pins s σ H _ us Q I rus ⟨p, ws, rfl, .inr ⟨hp, ?_⟩⟩
      unfold seqS at h1
      split at h1
      · cases h1
        obtain ⟨a, vs, e, h2, h3⟩ := Rep.lst_ r1
        cases e
        exfalso
        have h4 := r.ex _ _ h2
        obtain ⟨its, rv, ⟨o, ho, hcl, n, hd⟩, _⟩ := I.tuple hp
        obtain ⟨_, its2, n2, rv2, ho2⟩ := (show ObjOk X.prog X.w H s.heap p (.lst vs) from I.hok p _ h4)
        rw [ho] at ho2
        have e := congrArg Obj.cls (Option.some.inj ho2)
        rw [hcl] at e
        exact absurd e (by simp)
      · cases h1
        exact q.now r r1
      · cases h1
        obtain ⟨a, e, h2⟩ := Rep.scr_ r1
        cases e
        exfalso
        obtain ⟨its, rv, ⟨o, n, ho, hcl, _⟩, _⟩ := I.list (hK ▸ ext_l r.ex h2)
        obtain ⟨its2, rv2, ⟨o2, ho2, hcl2, n2, hd2⟩, _⟩ := I.tuple hp
        rw [ho] at ho2
        have e := congrArg Obj.cls (Option.some.inj ho2)
        rw [hcl, hcl2] at e
        exact absurd e (by simp)
      · rename_i j
        split at h1 <;> cases h1
        rename_i xs h2
        obtain ⟨a, ha, e⟩ := r1
        cases e
        obtain ⟨vs, h3, h4⟩ := r.at_ ha h2
        exfalso
        obtain ⟨its, rv, ⟨o, ho, hcl, n, hd⟩, _⟩ := I.tuple hp
        obtain ⟨_, its2, n2, rv2, ho2⟩ := (show ObjOk X.prog X.w H s.heap p (.lst vs) from I.hok p _ h3)
        rw [ho] at ho2
        have e := congrArg Obj.cls (Option.some.inj ho2)
        rw [hcl] at e
        exact absurd e (by simp)
      · cases h1
  · split at hz <;> cases hz
    rename_i hl
    cases rs with | cons r1 rt =>
    cases rt
    cases r1
    exact call_str_int pins s σ H _ us Q I rus ⟨_, rfl, hl, by rw [decT_eq]; exact q.now r (.str _ (decT_ok hl))⟩
  · obtain ⟨bs, h1, h2⟩ := Option.map_eq_some_iff.mp hz
    subst h2
    have e := blsD_eq h1
    subst e
    cases rs with | cons r1 rt =>
    cases rt
    obtain ⟨a, vs, rfl, h2, h3⟩ := Rep.lst_ r1
    have e := h3.bls
    subst e
    exact cr_all (hc rfl) pins s σ H _ us Q I rus ⟨a, bs, rfl, SqL.of (r.ex _ _ h2), q.now r (.bl _)⟩
  · obtain ⟨bs, h1, h2⟩ := Option.map_eq_some_iff.mp hz
    subst h2
    have e := blsD_eq h1
    subst e
    cases rs with | cons r1 rt =>
    cases rt
    obtain ⟨a, vs, rfl, h2, h3⟩ := Rep.lst_ r1
    have e := h3.bls
    subst e
    exact cr_any (hc rfl) pins s σ H _ us Q I rus ⟨a, bs, rfl, SqL.of (r.ex _ _ h2), q.now r (.bl _)⟩
  · cases hz
end
end GF

set_option Elab.async false
set_option linter.all false
set_option maxRecDepth 100000
set_option autoImplicit false
set_option maxHeartbeats 1000000
namespace GF
open PySem PySem.Spec PyProof.Rows L2

/-- the answer is a new list of ds -/
def AnsN (G : Ge) (P : Hp) (M : List D) (F : Hp) (A : List Ad) (ds : List D) (Q : VK) : Prop :=
  ∀ a vs F' H', Ext F F' → RelM G P M F' A H' → H' a = some (.lst vs) → F' a = none → P a = none → a ∉ A → Reps G F' ds vs → Q (.ref a) H'
section
variable {X : Cx} {G : Ge} {P : Hp} {M : List D} {F : Hp} {A : List Ad} {eA : EA} {σ : St'} {H : Hp} {pins : List (Ad × Obj)} {s : Shared} {Q : VK} {u w : V} {uv wv : Value}
theorem AnsN.new {ds : List D} {vs : List V} (q : AnsN G P M F A ds Q) (r : RelM G P M F A H) (h : Reps G F ds vs) {p : Ad} (hp : H p = none) : Q (.ref p) (upd H p (.lst vs)) := by
  obtain ⟨h1, h2, h3⟩ := r.fresh hp
  exact q p vs F _ Ext.refl (r.skip h1 h2 h3) upd_same h1 h2 h3 h
theorem RelM.ne_of_fresh (r : RelM G P M F A H) {p : Ad} (hp : H p = none) {j : Nat} {a : Ad} (e : A[j]? = some a) : a ≠ p := fun z => (r.fresh hp).2.2 (by rw [← z]; exact List.mem_of_getElem? e)

/-! ### slices -/
def rSlE (G : Ge) (P : Hp) (eA : EA) : V → Option Int → Option Int → Hp → VK → Prop := fun u lo hi H Q => ∃ (M : List D) (F : Hp) (A : List Ad), RelM G P M F A H ∧
  ((∃ t, Rep G F (.str t) u ∧ AnsD G P M F A (.str (cut t lo hi)) Q) ∨ ∃ ds, Rep G F (.tup ds) u ∧ AnsD G P M F A (.tup (cut ds lo hi)) Q)
theorem cut_whole {α : Type} {xs : List α} {lo hi : Option Int} (h : GF.sIx xs.length 0 lo = 0 ∧ GF.sIx xs.length xs.length hi = xs.length) : cut xs lo hi = xs := by
  unfold cut
  rw [h.1, h.2]
  simp
theorem sl_runE (hK : G.K = X.K) : SlR X (rSlE G P eA) := by
  intro pins s σ H u uv vl vu lo hi sl Q I ru hs pl pu h
  obtain ⟨M, F, A, r, h⟩ := h
  rcases h with ⟨t, rt, q⟩ | ⟨ds, rt, q⟩
  · obtain ⟨rfl, ot⟩ := Rep.str_ rt
    refine sl_str pins s σ H _ uv vl vu lo hi sl Q I ru hs pl pu ⟨toS t, rfl, by rw [toS_len]; exact ot.1, ?_⟩
    rw [cutS_eq]
    exact q.now r (.str _ (okT_sub ot (cut_sub _ _ _)))
  · obtain ⟨a, vs, rfl, h1, h2⟩ := Rep.tup_ rt
    refine sl_tupA pins s σ H _ uv vl vu lo hi sl Q I ru hs pl pu ⟨a, vs, rfl, hK ▸ ext_t r.ex h1, fun hw => ?_, fun hw p hp => ?_⟩
    · rw [sIx_eq, sIx_eq, h2.length] at hw
      rw [cut_whole hw] at q
      exact q.now r rt
    · exact q.tup r (h2.cut lo hi) hp
def rSlN (G : Ge) (P : Hp) (eA : EA) : V → Option Int → Option Int → Hp → VK → Prop := fun u lo hi H Q => ∃ (M : List D) (F : Hp) (A : List Ad) (x : Sl) (ds : List D), RelM G P M F A H ∧ RepS G F A eA x u ∧ lstS M x = some ds ∧ AnsN G P M F A (cut ds lo hi) Q
theorem sl_runN (hK : G.K = X.K) : SlR X (rSlN G P eA) := by
  intro pins s σ H u uv vl vu lo hi sl Q I ru hs pl pu h
  obtain ⟨M, F, A, x, ds, r, rx, hx, q⟩ := h
  obtain ⟨p, vs, rfl, h1, h2⟩ := lstS_rep hK hx rx r
  exact sl_list pins s σ H _ uv vl vu lo hi sl Q I ru hs pl pu ⟨p, vs, rfl, h1, fun p hp => q.new r (h2.cut lo hi) hp⟩

/-! ### new lists -/
/-- a list by its place, read from any of its kinds that H holds -/
def ListAt (G : Ge) (F : Hp) (H : Hp) (ds : List D) (u : V) : Prop := ∃ a vs, u = .ref a ∧ H a = some (.lst vs) ∧ Reps G F ds vs
def rCatG (G : Ge) (P : Hp) : R2 := fun u w H Q => ∃ (M : List D) (F : Hp) (A : List Ad) (ds es : List D), RelM G P M F A H ∧ ListAt G F H ds u ∧ ListAt G F H es w ∧ ds.length + es.length ≤ LN ∧ AnsN G P M F A (ds ++ es) Q
theorem cat_run : OpR X (binaryOp .Add) (rCatG G P) := by
  intro pins s σ H u w uv wv Q I ru rw' h
  obtain ⟨M, F, A, ds, es, r, ⟨a, vs, rfl, h1, h2⟩, ⟨b, ws, rfl, h3, h4⟩, hl, q⟩ := h
  exact op_cat pins s σ H _ _ uv wv Q I ru rw' ⟨a, b, vs, ws, rfl, rfl, h1, h3, by rw [h2.length, h4.length, ← LN_eq]; exact hl, fun p hp => q.new r (h2.append h4) hp⟩
def rRepG (G : Ge) (P : Hp) : R2 := fun u w H Q => ∃ (M : List D) (F : Hp) (A : List Ad) (ds : List D) (k : Int), RelM G P M F A H ∧ ListAt G F H ds u ∧ w = .int k ∧ (-(2 ^ 63) ≤ k ∧ k < 2 ^ 63 ∧ ds.length * k.toNat ≤ LN) ∧ AnsN G P M F A (List.replicate k.toNat ds).flatten Q
theorem rep_run : OpR X (binaryOp .Mult) (rRepG G P) := by
  intro pins s σ H u w uv wv Q I ru rw' h
  obtain ⟨M, F, A, ds, k, r, ⟨a, vs, rfl, h1, h2⟩, rfl, ⟨k1, k2, k3⟩, q⟩ := h
  exact op_rep pins s σ H _ _ uv wv Q I ru rw' ⟨a, k, vs, rfl, rfl, h1, k1, k2, by rw [h2.length, ← LN_eq]; exact k3, fun p hp => q.new r (h2.rep _) hp⟩
def rListG (G : Ge) (P : Hp) (eA : EA) : List V → Hp → VK → Prop := fun vs H Q => ∃ (M : List D) (F : Hp) (A : List Ad) (x : Sl) (u : V) (ds : List D), vs = [u] ∧ RelM G P M F A H ∧ RepS G F A eA x u ∧ seqS M x = some ds ∧ AnsN G P M F A ds Q
theorem list_run (hK : G.K = X.K) : CallR X (.type "list") (rListG G P eA) := by
  intro pins s σ H vs us Q I rus h
  obtain ⟨M, F, A, x, u, ds, rfl, r, rx, hx, q⟩ := h
  obtain ⟨p, ws, rfl, h1, h2⟩ := seqS_rep hK hx rx r
  exact call_list_of pins s σ H _ us Q I rus ⟨p, ws, rfl, h1, fun l hl => q.new r h2 hl⟩

/-! ### texts' methods -/
theorem glued_go (sep : Tx) : ∀ (ts : List Tx) (x : Tx), (ts.map toS).foldl (fun acc p => acc ++ (toS sep).cps ++ p.cps) (toS x).cps = (joinT sep (x :: ts)).toArray
  | [], x => rfl
  | y :: r, x => by
    have e : (toS x).cps ++ (toS sep).cps ++ (toS y).cps = (toS (x ++ sep ++ y)).cps := by simp [toS]
    rw [List.map_cons, List.foldl_cons, e, glued_go sep r (x ++ sep ++ y)]
    cases r with
    | nil => simp [joinT]
    | cons z r => simp [joinT]
theorem join_toS (sep : Tx) (ts : List Tx) : Txt.join (toS sep) (ts.map toS) = toS (joinT sep ts) := by
  show (⟨((ts.map toS).drop 1).foldl (fun acc p => acc ++ (toS sep).cps ++ p.cps) ((ts.map toS).headD Str.empty).cps⟩ : Str) = _
  cases ts with
  | nil => rfl
  | cons x r =>
    show (⟨(r.map toS).foldl (fun acc p => acc ++ (toS sep).cps ++ p.cps) (toS x).cps⟩ : Str) = _
    rw [glued_go]
    rfl
theorem joinT_ok {sep : Tx} (hs : okT sep) : ∀ {ts : List Tx}, (∀ t ∈ ts, okT t) → (joinT sep ts).length ≤ LN → okT (joinT sep ts) := by
  intro ts h hl
  refine ⟨by rw [← LN_eq]; exact hl, ?_⟩
  clear hl
  induction ts with
  | nil => intro c hc; cases hc
  | cons x r ih =>
    cases r with
    | nil => intro c hc; exact (h x List.mem_cons_self).2 c hc
    | cons y r =>
      intro c hc
      have hc' : c ∈ x ++ sep ++ joinT sep (y :: r) := hc
      rw [List.mem_append, List.mem_append] at hc'
      rcases hc' with (z | z) | z
      · exact (h x List.mem_cons_self).2 c z
      · exact hs.2 c z
      · exact ih (fun t ht => h t (List.mem_cons_of_mem _ ht)) c z
theorem joinT_len (sep : Tx) : ∀ ts : List Tx, (joinT sep ts).length + (if ts = [] then 0 else sep.length) = ((ts.map toS).map (·.length)).sum + ts.length * sep.length
  | [] => by simp [joinT]
  | [x] => by simp [joinT, toS_len]
  | x :: y :: r => by
    have ih := joinT_len sep (y :: r)
    have e : (joinT sep (x :: y :: r)).length = x.length + sep.length + (joinT sep (y :: r)).length := by simp [joinT]; omega
    rw [e]
    simp only [List.map_cons, List.sum_cons, toS_len, List.length_cons, reduceCtorEq, if_false, Nat.add_mul, Nat.one_mul] at ih ⊢
    omega
theorem rstrip_toS (t cs : Tx) : Txt.rstripChars (toS t) (toS cs) = toS (rstripT t cs) := by
  have hc : (toS cs).cps.contains = fun c => cs.contains c := by
    funext c
    simp [toS]
  have hi : stripHi (fun c => cs.contains c) true (toS t) 0 = t.length - (t.reverse.takeWhile fun c => cs.contains c).length := by
    unfold stripHi
    simp [toS, Str.length]
  show Txt.stripBy (toS cs).cps.contains false true (toS t) = _
  rw [hc]
  unfold Txt.stripBy
  split
  · rename_i h
    have h : (stripHi (fun c => cs.contains c) true (toS t) 0 == (toS t).length) = true := by simpa [stripSame, stripLo] using h
    rw [hi, beq_iff_eq, toS_len] at h
    unfold rstripT
    rw [h, List.take_length]
  · show Builtin.Str.strSub (toS t) 0 (stripHi (fun c => cs.contains c) true (toS t) 0) = _
    rw [hi]
    simp [Builtin.Str.strSub, rstripT, toS]
def bmId : Bm → String
  | .join => "str.join"
  | .startswith => "str.startswith"
  | .endswith => "str.endswith"
  | .rstrip1 => "str.rstrip"
  | .lstrip1 => "str.lstrip"
  | .partition => "str.partition"
def bmNm : Bm → Str
  | .join => "join"
  | .startswith => "startswith"
  | .endswith => "endswith"
  | .rstrip1 => "rstrip"
  | .lstrip1 => "lstrip"
  | .partition => "partition"
def rBm (G : Ge) (P : Hp) (eA : EA) (m : Bm) : V → List V → Hp → VK → Prop := fun u vs H Q => ∃ (M : List D) (F : Hp) (A : List Ad) (x : Sl) (xs : List Sl) (z : D), RepS G F A eA x u ∧ RepSs G F A eA xs vs ∧ RelM G P M F A H ∧ bmS M m x xs = some z ∧ AnsD G P M F A z Q
theorem bm_run {m : Bm} (hK : G.K = X.K) : MtR X (bmId m) (rBm G P eA m) := by
  intro pins s σ H u vs uv us Q I ru rus h
  obtain ⟨M, F, A, x, xs, z, rx, rs, r, hz, q⟩ := h
  unfold bmS at hz
  split at hz
  · obtain ⟨ds, h1, h2⟩ := Option.bind_eq_some_iff.mp hz
    obtain ⟨ts, h3, h4⟩ := Option.bind_eq_some_iff.mp h2
    split at h4 <;> cases h4
    rename_i hl
    have e := strsD_eq h3
    subst e
    obtain ⟨rfl, os⟩ := Rep.str_ rx
    cases rs with | cons r1 rt =>
    cases rt
    obtain ⟨p, ws, rfl, hp, hr⟩ := seqS_rep hK h1 r1 r
    obtain ⟨e, ot⟩ := hr.strs
    subst e
    rename_i sep a
    refine mt_join pins s σ H _ _ uv us Q I ru rus ⟨toS sep, p, ts.map toS, rfl, rfl, hp, ?_, ?_⟩
    · have := joinT_len sep ts
      rw [toS_len, List.length_map]
      have e : LN = 16777216 := rfl
      split at this <;> omega
    · rw [join_toS]
      exact q.now r (.str _ (joinT_ok os ot (by omega)))
  · cases hz
    obtain ⟨rfl, os⟩ := Rep.str_ rx
    cases rs with | cons r1 rt =>
    cases rt
    obtain ⟨rfl, os2⟩ := Rep.str_ r1
    rename_i t cs
    refine mt_rstripChars pins s σ H _ _ uv us Q I ru rus ⟨toS t, toS cs, rfl, rfl, by rw [toS_len]; exact os.1, ?_⟩
    rw [rstrip_toS]
    exact q.now r (.str _ ⟨Nat.le_trans (List.length_take_le' _ _) os.1, fun c hc => os.2 c (List.mem_of_mem_take hc)⟩)
  · cases hz

/-! ### methods that change a list -/
def muId : Mu → String
  | .append => "list.append"
  | .pop0 => "list.pop"
  | .popl => "list.pop"
  | .extend => "list.extend"
def muNm : Mu → Str
  | .append => "append"
  | .pop0 => "pop"
  | .popl => "pop"
  | .extend => "extend"
def rMu (G : Ge) (P : Hp) (eA : EA) (m : Mu) : V → List V → Hp → VK → Prop := fun u vs H Q => ∃ (M : List D) (F : Hp) (A : List Ad) (j : Nat) (ds es : List D) (xs : List Sl) (z : D), RepS G F A eA (.ref j) u ∧ RepSs G F A eA xs vs ∧ RelM G P M F A H ∧ M[j]? = some (.lst ds) ∧ muS m ds xs = some (z, es) ∧
  AnsD G P (M.set j (.lst es)) F A z Q
theorem mu_run {m : Mu} : MtR X (muId m) (rMu G P eA m) := by
  intro pins s σ H u vs uv us Q I ru rus h
  obtain ⟨M, F, A, j, ds, es, xs, z, ⟨a, ha, rfl⟩, rs, r, hm, hz, q⟩ := h
  obtain ⟨ws, h1, h2⟩ := r.at_ ha hm
  unfold muS at hz
  split at hz
  · split at hz <;> cases hz
    rename_i hl
    cases rs with | cons r1 rt =>
    cases rt
    refine mt_append pins s σ H _ _ uv us Q I ru rus ⟨a, ws, _, rfl, rfl, h1, by rw [h2.length, ← LN_eq]; exact hl, ?_⟩
    have c : CellR G F (.lst (ds ++ [_])) (some (.lst (ws ++ [_]))) := ⟨_, rfl, h2.append (.cons r1 .nil)⟩
    exact q _ F _ Ext.refl (r.write ha c) .non
  · cases hz
    cases rs with | cons r1 rt =>
    cases rt
    cases r1
    cases h2 with | cons rx rr =>
    rename_i v vs
    refine mt_popAt pins s σ H _ _ uv us Q I ru rus ⟨a, v :: vs, 0, 0, v, rfl, rfl, h1, by decide, by decide, ?_, rfl, ?_⟩
    · unfold seqIndex?
      simp
    · have c : CellR G F (.lst es) (some (.lst ((v :: vs).eraseIdx 0))) := ⟨_, rfl, rr⟩
      exact q _ F _ Ext.refl (r.write ha c) rx
  · obtain ⟨d, e1, e2⟩ := Option.map_eq_some_iff.mp hz
    cases e2
    cases rs
    obtain ⟨v, e3, e4⟩ := h2.get e1
    refine mt_pop pins s σ H _ _ uv us Q I ru rus ⟨a, ws, v, rfl, rfl, h1, by rw [h2.length]; exact e3, ?_⟩
    have c : CellR G F (.lst ds.dropLast) (some (.lst ws.dropLast)) := ⟨_, rfl, h2.dropLast⟩
    exact q _ F _ Ext.refl (r.write ha c) e4
  · split at hz <;> cases hz
    rename_i hl
    cases rs with | cons r1 rt =>
    cases rt
    obtain ⟨b, zs, rfl, k1, k2⟩ := Rep.lst_ r1
    refine mt_extend pins s σ H _ _ uv us Q I ru rus ⟨a, b, ws, zs, rfl, rfl, h1, r.ex _ _ k1, by rw [h2.length, k2.length, ← LN_eq]; exact hl, ?_⟩
    have c : CellR G F (.lst (ds ++ _)) (some (.lst (ws ++ zs))) := ⟨_, rfl, h2.append k2⟩
    exact q _ F _ Ext.refl (r.write ha c) .non
  · cases hz

/-! ### isinstance, truth -/
def tagV (G : Ge) : Tag → Value
  | .non => .type "NoneType"
  | .bool => .type "bool"
  | .int => .type "int"
  | .str => .type "str"
  | .list => .type "list"
  | .tuple => .type "tuple"
  | .cls c => .ref (G.cad c)
def tyU (G : Ge) : Ty → Value
  | .int => .type "int"
  | .bool => .type "bool"
  | .str => .type "str"
  | .list => .type "list"
  | .tuple => .type "tuple"
  | .cls c => .ref (G.cad c)
def tyVal (G : Ge) : Ty → V
  | .int => .ty "int"
  | .bool => .ty "bool"
  | .str => .ty "str"
  | .list => .ty "list"
  | .tuple => .ty "tuple"
  | .cls c => .ref (G.cad c)
/-- what is told of the classes -/
structure ClsOk (G : Ge) : Prop where
  kit : ∀ (t : Tag) (k : Nat), k < G.tb.cls.length → (∀ c, t = .cls c → c < G.tb.cls.length) → PySem.W.kitOne G.K (tagV G t) (.ref (G.cad k)) = some (isTag G.tb t (.cls k))
  kitT : ∀ (c : Nat) (t : Ty), c < G.tb.cls.length → (∀ k, t ≠ .cls k) → PySem.W.kitOne G.K (.ref (G.cad c)) (tyU G t) = some false
  clsv : (PySem.W.specialIn G.K (.builtin "object.__class__") "__get__" = some (some (.builtin "getset_descriptor.__get__"))) ∧ PySem.W.takesIn G.K (.builtin "object.__class__") = some true
  ins : ∀ c, c < G.tb.cls.length → G.tb.isExc c = false → Cls G.K (G.cad c) ∧ PySem.W.findIn G.K (.ref (G.cad c)) "__class__" = some (some (.builtin "object.__class__")) ∧ PySem.W.mroIn G.K (G.cad c) (.type "object") = some true
  exc : ∀ c, c < G.tb.cls.length → G.tb.isExc c = true → ExcC G.K (G.cad c)
  exm : ∀ c k, c < G.tb.cls.length → k < G.tb.cls.length → G.tb.isExc c = true → G.tb.isExc k = true → PySem.W.exmOne G.K (.ref (G.cad c)) (.ref (G.cad k)) = some (G.tb.isSub c k)
  nms : ∀ c i, G.tb.cls[c]? = some i → G.nms c = i.flds.map Str.ofString
  nd : ∀ c, c < G.tb.cls.length → (G.nms c).Nodup
  fld : ∀ c n, c < G.tb.cls.length → n ∈ G.nms c → PySem.W.findIn G.K (.ref (G.cad c)) n = some none
  mkc : ∀ c, c < G.tb.cls.length → G.tb.isExc c = false → PySem.W.makesIn G.K (G.cad c) = true ∧ PySem.W.keepIn G.K (.ref (G.cad c)) = true ∧ PySem.W.selfFirst G.K (G.cad c) = true
  nfst : ∀ c d, c < G.tb.cls.length → d < G.tb.cls.length → G.tb.isExc c = false → G.tb.isExc d = false → PySem.W.notFirst G.K (G.cad c) (.ref (G.cad d)) = true
theorem kit_of' (C : ClsOk G) {t : Tag} {y : Ty} (ht : ∀ c, t = .cls c → c < G.tb.cls.length) (hy : ∀ k, y = .cls k → k < G.tb.cls.length) : PySem.W.kitOne G.K (tagV G t) (tyU G y) = some (isTag G.tb t y) := by
  cases y with
  | cls k => exact C.kit t k (hy k rfl) ht
  | _ =>
    cases t with
    | cls c => exact C.kitT c _ (ht c rfl) (by intro k z; cases z)
    | _ => first | exact kit_ty (r := true) (by decide +kernel) | exact kit_ty (r := false) (by decide +kernel)
/-- isinstance(x, T), x no exception that is handled -/
def rIsiG (G : Ge) (P : Hp) (eA : EA) : List V → Hp → VK → Prop := fun vs H Q => ∃ (M : List D) (F : Hp) (A : List Ad) (x : Sl) (u : V) (y : Ty) (b : Bool), vs = [u, tyVal G y] ∧ RelM G P M F A H ∧ RepS G F A eA x u ∧ (∀ c fs, x ≠ .exn c fs) ∧ isiS G.tb M x y = some b ∧
  (∀ k, y = .cls k → k < G.tb.cls.length) ∧ Q (.bl b) H
theorem cls_val {y : Ty} : ClsV (tyVal G y) (tyU G y) := by cases y <;> first | exact .ty _ | exact .own _
theorem isi_run (hK : G.K = X.K) (C : ClsOk G) : CallR X (.builtin "isinstance") (rIsiG G P eA) := by
  intro pins s σ H vs us Q I rus h
  obtain ⟨M, F, A, x, u, y, b, rfl, r, rx, hne, hb, hy, q⟩ := h
  have go : ∀ {t : Tag}, TyX X.K H u (tagV G t) → (∀ c, t = .cls c → c < G.tb.cls.length) → b = isTag G.tb t y → wpAny (model X.prog X.w) X.A (call (.builtin "isinstance") us) (EP X pins σ Q) X.xe s := by
    intro t ht hc e
    exact call_isi pins s σ H _ us Q I rus ⟨u, tyVal G y, tagV G t, tyU G y, b, rfl, cls_val, ht, by rw [← hK, e]; exact kit_of' C hc hy, q⟩
  cases x with
  | exn c fs => exact absurd rfl (hne c fs)
  | ref j =>
    obtain ⟨a, ha, rfl⟩ := rx
    unfold isiS at hb
    simp only at hb
    split at hb <;> cases hb
    rename_i xs hm
    obtain ⟨vs, h1, h2⟩ := r.at_ ha hm
    exact go (t := .list) (.base (.lst h1)) (by intro c z; cases z) rfl
  | d x =>
    cases rx with
    | non => cases hb; exact go (t := .non) (.base .non) (by intro c z; cases z) rfl
    | bl c => cases hb; exact go (t := .bool) (.base (.bl c)) (by intro c z; cases z) rfl
    | int c => cases hb; exact go (t := .int) (.base (.int c)) (by intro c z; cases z) rfl
    | str c hc => cases hb; exact go (t := .str) (.base (.str _)) (by intro c z; cases z) rfl
    | lst h1 h2 => cases hb; exact go (t := .list) (.base (.lst (r.ex _ _ h1))) (by intro c z; cases z) rfl
    | tup h1 h2 =>
      cases hb
      rcases h1 with (h1 | ⟨o, h1⟩) | ⟨o, its, n, h1, h3, _⟩
      · exact go (t := .tuple) (.base (.tup (r.ex _ _ h1))) (by intro c z; cases z) rfl
      · exact go (t := .tuple) (.fTuple (r.ex _ _ h1)) (by intro c z; cases z) rfl
      · exact go (t := .tuple) (.kTuple (hK ▸ h1) h3) (by intro c z; cases z) rfl
    | @obj a dx c fv vs' fs h1 h2 h3 h4 =>
      have hb' : (if c < G.tb.cls.length ∧ G.tb.isExc c = false then some (isTag G.tb (.cls c) y) else none) = some b := hb
      split at hb' <;> cases hb'
      rename_i hc
      obtain ⟨k1, k2, k3⟩ := C.ins c hc.1 hc.2
      exact go (t := .cls c) (.base (.ins (r.ex _ _ h1) (hK ▸ k1) (hK ▸ k2) (hK ▸ C.clsv.1) (hK ▸ C.clsv.2) (hK ▸ k3))) (by intro c' z; cases z; exact hc.1) rfl
    | scr _ => cases hb

/-- truth -/
theorem tru_run {x : Sl} {b : Bool} (hK : G.K = X.K) (hb : truS M x = some b) (rx : RepS G F A eA x u) (r : RelM G P M F A H) : TruV X.K u H b := by
  unfold truS at hb
  split at hb
  · cases hb; cases rx; rfl
  · cases hb; cases rx; rfl
  · cases hb; cases rx; rfl
  · cases hb
    obtain ⟨rfl, ot⟩ := Rep.str_ rx
    refine ⟨by rw [toS_len]; exact ot.1, ?_⟩
    rw [toS_len]
    rename_i t
    cases t <;> simp
    omega
  · obtain ⟨xs, h1, h2⟩ := Option.map_eq_some_iff.mp hb
    subst h2
    obtain ⟨p, vs, rfl, hp, hr⟩ := seqS_rep hK h1 rx r
    have e : (!xs.isEmpty) = !vs.isEmpty := by cases hr <;> rfl
    rw [e]
    rcases hp with hp | hp
    · exact .inl ⟨vs, hp, rfl⟩
    · exact .inr (.inl ⟨vs, hp, rfl⟩)
end
end GF

set_option Elab.async false
set_option linter.all false
set_option maxRecDepth 100000
set_option autoImplicit false
set_option maxHeartbeats 1000000
namespace GF
open PySem PySem.Spec PyProof.Rows L2 RT
/-! ### reversed(text) -/
theorem rsNo : typeLookup (.type "str") "__reversed__" = pure none := by rw [typeLookup_type, builtinLookup_eq_fast]; kernel_rfl
theorem rsGet : typeLookup (.type "str") "__getitem__" = pure (some (.builtin "str.__getitem__")) := by rw [typeLookup_type, builtinLookup_eq_fast]; kernel_rfl
theorem rsDict : isSubtype (.type "str") (.type "dict") = pure false := by rw [isSubtype_type]; kernel_rfl
/-- the object that reversed makes of a text, the next place i -/
def rsObj (x : Str) (t : Tok) (i : Int) : Obj := { cls := .type "reversed", data := .fields #[.str x t, rawInt i] }
def IsRs (h : Heap) (a : Ad) (x : Str) (t : Tok) (i : Int) : Prop := ∃ o, h.get? a = some o ∧ o.cls = .type "reversed" ∧ o.data = .fields #[.str x t, rawInt i]
theorem IsRs.there {h h' : Heap} {a : Ad} {x : Str} {t : Tok} {i : Int} (y : IsRs h a x t i) (e : ∀ o, h.get? a = some o → h'.get? a = some o) : IsRs h' a x t i := by
  obtain ⟨o, ho, r⟩ := y
  exact ⟨o, e _ ho, r⟩
section
variable {prog : Program} {w : World} {A : Around} {E : Value → Shared → Prop} {s : Shared} {x : Str} {t : Tok}
theorem IsRs.type {a : Ad} {i : Int} (y : IsRs s.heap a x t i) : s.TypeIs (.ref a) "reversed" := by
  obtain ⟨o, ho, hc, _⟩ := y
  exact ⟨o, ho, hc⟩
theorem rs_new {Q₁ : Value → Shared → Prop} (hn : x.length ≤ sizeLine) (h : Q₁ (.ref s.heap.objs.size) { s with heap := s.heap.push (rsObj x t ((x.length : Int) - 1)), toks := s.toks + 1 + 1 }) :
    codeAny (model prog w) A (.call (.builtin "reversed.__new__") ⟨[.type "reversed", .str x t], []⟩) (wants Q₁ E) s := by
  have hT : s.TypeIs (.str x t) "str" := typeIs_str s x t
  have hl := line63
  refine codeAny_of_tree ?_
  show wpAny _ A.in1 (do checkBuiltinCall "reversed.__new__" ⟨[.type "reversed", .str x t], []⟩; again (.builtin "reversed.__new__" ⟨[.type "reversed", .str x t], []⟩)) _ _ s
  refine wpAny_bind (wpAny_of_eq (F.newCall_reversed_1 (.str x t)) (wpAny_pure ⟨plainId_quiet F.plain_reversed_new _, codeAny_builtin F.entry_reversed_new ?_⟩))
  rw [Around.under_plainId F.plain_reversed_new ⟨[.type "reversed", .str x t], []⟩]
  unfold Builtin.«reversed.__new__»
  refine wpAny_bind (wpAny_of_eq (newClass_reversed (.str x t)) ?_)
  try dsimp only
  refine wpAny_bind (wpAny_of_eq (a := ()) (by first | rfl | kernel_rfl) ?_); try dsimp only
  refine wpAny_bind (wpAny_of_eq (a := ()) (by first | rfl | kernel_rfl) ?_); try dsimp only
  refine wpAny_bind (wpAny_specialOf hT rsNo ?_)
  try dsimp only
  refine wpAny_bind ?_
  wp_delta
  refine wpAny_bind (wpAny_isInstance (T := "str") (U := "dict") (b := false) hT rsDict ?_)
  try dsimp only
  try rw [if_neg Bool.false_ne_true]
  try dsimp only
  refine wpAny_bind (wpAny_specialOf hT rsGet ?_)
  try dsimp only
  try rw [if_pos (by decide +kernel)]
  refine wpAny_pure ?_
  try dsimp only
  try rw [if_neg (by decide)]
  try dsimp only
  refine wpAny_bind (P.len_str (x := x) (t := t) (by omega) ?_)
  refine wpAny_bind (wpAny_of_eq (a := some ((x.length : Nat) : Int)) rfl ?_)
  try dsimp only
  refine wpAny_bind ?_
  show wpAny _ _ (newObj (.type "reversed") (.fields #[.str x t, rawInt ((x.length : Int) - 1)])) _ _ _
  exact wpAny_newObj_type (wpAny_pure h)
theorem rs_call {Q : Value → Shared → Prop} (hn : x.length ≤ sizeLine) (h : Q (.ref s.heap.objs.size) { s with heap := s.heap.push (rsObj x t ((x.length : Int) - 1)), toks := s.toks + 1 + 1 }) :
    wpAny (model prog w) A (call (.type "reversed") [.str x t]) Q E s := by
  refine callType_codes (Q₁ := fun obj s₁ => s₁.TypeIs obj "reversed" ∧ Q obj s₁) called_rt (F.typeCall_reversed_1 (.str x t)) F.entry_object_init
    (rs_new (A := A.in1) hn ⟨⟨_, Heap.get?_push_size _ rfl, rfl⟩, h⟩) fun obj s₁ h₁ => ?_
  exact ⟨h₁.1, F.args_object_init_2 obj _, object_init_meets called_rt.init.lookup called_rt.made (by decide) prog w A.in1 _ s₁ ⟨h₁.1, rfl, h₁.2⟩⟩
theorem rs_item {it : Ad} {i c : Nat} {Q : Option Value → Shared → Prop} (hit : IsRs s.heap it x t (i : Int)) (hc : x.cps[i]? = some c) (hn : x.length ≤ sizeLine)
    (hQ : ∀ h' tk u, IsRs h' it x t ((i : Int) - 1) → Heap.SameBut it s.heap h' → Q (some (.str ⟨#[c]⟩ u)) { s with heap := h', toks := tk }) : wpAny (model prog w) A (pyNext (.ref it)) Q E s := by
  obtain ⟨o, ho, hcl, hd⟩ := id hit
  have hi : i < x.cps.size := (Array.getElem?_eq_some_iff.mp hc).1
  have hl := line63
  have hn' : x.cps.size ≤ sizeLine := hn
  have hT : s.TypeIs (.str x t) "str" := typeIs_str s x t
  unfold pyNext
  refine wpAny_bind (wpAny_attempt (wpAny_callSpecial?_slot (name := Str.ofString "__next__") hit.type slot_rt_next
    (wpAny_call_entry slot_rt_next hit.type entry_rt_next ?_ (args_rt_next _))))
  unfold Builtin.«reversed.__next__»
  refine wpAny_bind (wpAny_of_eq (a := (Value.ref it, [])) rfl ?_)
  try dsimp only
  refine wpAny_bind (wpAny_field ho hd (x := .str x t) rfl ?_)
  try dsimp only
  refine wpAny_bind (wpAny_field ho hd (x := rawInt (i : Int)) rfl ?_)
  show wpAny _ _ (if (i : Int) < 0 then _ else _) _ _ s
  rw [if_neg (by omega)]
  try dsimp only
  refine wpAny_bind (wpAny_specialOf hT rsGet ?_)
  try dsimp only
  try rw [if_neg (by decide)]
  try dsimp only
  refine wpAny_bind (wpAny_mkInt ?_)
  refine wpAny_bind (wpAny_attempt ?_)
  have fin : seqIndex? (i : Int) x.length = some i := seqIndex_of (by omega) (show ((i : Nat) : Int) < ((x.cps.size : Nat) : Int) by omega)
  refine P.getItem_str (s := { s with toks := s.toks + 1 }) (i := (i : Int)) (c := c) (by simp only [Bool.or_eq_false_iff, decide_eq_false_iff_not]; omega) (by rw [fin]; exact hc) ?_
  try dsimp only
  refine wpAny_bind (wpAny_field (s := { s with toks := s.toks + 1 + 1 }) ho hd (x := rawInt (i : Int)) rfl ?_)
  try dsimp only
  refine wpAny_bind (wpAny_setField (s := { s with toks := s.toks + 1 + 1 }) ho hd (by simp) ?_)
  have z : IsRs (s.heap.update it (Obj.mapFields (·.setIfInBounds 1 (rawInt ((i : Int) - 1))))) it x t ((i : Int) - 1) := ⟨_, Heap.get?_update_self _ ho (Obj.isFreed_of_fields (Obj.data_mapFields hd _)), (Obj.cls_mapFields ..).trans hcl, by
    rw [Obj.data_mapFields hd]; simp⟩
  first
  | exact wpAny_pure ⟨_, rfl, wpAny_pure (hQ _ _ _ z (Heap.SameBut.update ..))⟩
  | exact wpAny_bind (wpAny_pure (wpAny_pure ⟨_, rfl, wpAny_pure (hQ _ _ _ z (Heap.SameBut.update ..))⟩))
theorem rs_end {it : Ad} {Q : Option Value → Shared → Prop} (hh : A.handled = none) (hit : IsRs s.heap it x t (-1))
    (hQ : ∀ h', Heap.ExtBut it s.heap h' → Q none { s with heap := h' }) : wpAny (model prog w) A (pyNext (.ref it)) Q E s := by
  obtain ⟨o, ho, hcl, hd⟩ := id hit
  unfold pyNext
  refine wpAny_bind (wpAny_attempt (wpAny_callSpecial?_slot (name := Str.ofString "__next__") hit.type slot_rt_next
    (wpAny_call_entry slot_rt_next hit.type entry_rt_next ?_ (args_rt_next _))))
  unfold Builtin.«reversed.__next__»
  refine wpAny_bind (wpAny_of_eq (a := (Value.ref it, [])) rfl ?_)
  try dsimp only
  refine wpAny_bind (wpAny_field ho hd (x := .str x t) rfl ?_)
  try dsimp only
  refine wpAny_bind (wpAny_field ho hd (x := rawInt (-1)) rfl ?_)
  show wpAny _ _ (if (-1 : Int) < 0 then _ else _) _ _ s
  rw [if_pos (by decide)]
  try dsimp only
  refine wpAny_bind (wpAny_rule ?_)
  refine wpAny_bind ?_
  wp_delta
  refine wpAny_bind (wpAny_setField ho hd (by simp) ?_)
  have ho2 := Heap.get?_update_self (Obj.mapFields (·.setIfInBounds 1 (rawInt (-1)))) ho (Obj.isFreed_of_fields (Obj.data_mapFields hd _))
  refine wpAny_setField (s := { s with heap := s.heap.update it (Obj.mapFields (·.setIfInBounds 1 (rawInt (-1)))) }) ho2 (Obj.data_mapFields hd _) (by simp) ?_
  try dsimp only
  first
  | show wpAny _ _ (newExc (.type "StopIteration") [] >>= _) _ _ _
  | (refine wpAny_bind ?_; show wpAny _ _ (newExc (.type "StopIteration") [] >>= _) _ _ _)
  | (refine wpAny_bind ?_; wp_delta; show wpAny _ _ (newExc (.type "StopIteration") [] >>= _) _ _ _)
  refine wpAny_bind ?_
  simp only [newExc, newTuple]
  refine wpAny_bind (wpAny_newObj_type ?_ (by size_fits))
  refine wpAny_bind (m := firstArgMember _ _) (wpAny_of_eq (a := Value.none) (by first | rfl | (simp only [firstArgMember]; rfl)) ?_)
  refine wpAny_newObj_type ?_ (by size_fits)
  simp only [raiseNew]
  refine wpAny_bind (wpAny_handled ?_)
  first | rw [show A.in1.handled = none from hh] | rw [hh]
  refine wpAny_bind (wpAny_pure (wpAny_throw ?_))
  refine wpAny_bind (wpAny_isInstance (T := "StopIteration") (b := true) ⟨_, Heap.get?_push_size _ rfl, rfl⟩ isSubtype_stop ?_)
  refine wpAny_pure (hQ _ ?_)
  refine ((?_ : Heap.ExtBut it s.heap _).push _).push _
  exact fun b o hb e => (Heap.get?_update_other _ _ (Ne.symm hb)).trans ((Heap.get?_update_other _ _ (Ne.symm hb)).trans e)
theorem rs_iter {it : Ad} {i : Int} {Q : Value → Shared → Prop} (hit : IsRs s.heap it x t i) (h : Q (.ref it) s) : wpAny (model prog w) A (pyIter (.ref it)) Q E s := by
  refine wpAny_pyIter_slot hit.type slot_rt_iter (wpAny_call_entry slot_rt_iter hit.type entry_rt_iter ?_ (args_rt_iter _))
  show wpAny _ _ (ret (.ref it)) _ _ s
  exact wpAny_pure ⟨_, rfl, "reversed", _, hit.type, slot_rt_next.lookup, h⟩
end
/-- what reversed(text) walks -/
def ItRs (x : Str) : L2.It :=
  ⟨fun i H => i < x.cps.size, fun i H v H' => H' = H ∧ ∃ c, x.cps[x.cps.size - 1 - i]? = some c ∧ v = .str ⟨#[c]⟩, fun i H => x.cps.size ≤ i⟩
theorem turn_rs {Pg : Program} {w : World} {K : PySem.W.Frag} {tg : Expr} (it : Ad) (x : Str) (t : Tok) (hn : x.length ≤ sizeLine) : Turn Pg w K tg (ItRs x) [it] it (fun i h => i ≤ x.cps.size ∧ IsRs h it x t ((x.cps.size : Int) - 1 - (i : Nat))) where
  mem := by simp
  obj := fun i h st b hb => by
    obtain rfl : b = it := by simpa using hb
    obtain ⟨_, o, e, c, d⟩ := st
    exact ⟨o, e, fun v z => by rw [d] at z; cases z⟩
  keep := fun i h h' st k => ⟨st.1, st.2.there fun o e => k it (by simp) o e⟩
  item := by
    intro X hP hw hK hc i pins s σ H E I hf st hg
    subst hP hw hK
    have hlt : i < x.cps.size := hg
    obtain ⟨f0, f1, f2, f3, f4, f5⟩ := hf it (by simp)
    obtain ⟨hin, hit⟩ := st
    have e1 : (x.cps.size : Int) - 1 - ((i : Nat) : Int) = ((x.cps.size - 1 - i : Nat) : Int) := by omega
    rw [e1] at hit
    have hcx : x.cps[x.cps.size - 1 - i]? = some x.cps[x.cps.size - 1 - i] := Array.getElem?_eq_getElem (by omega)
    refine rs_item hit hcx hn fun h' tk u st' sb => ?_
    have e2 : ((x.cps.size - 1 - i : Nat) : Int) - 1 = (x.cps.size : Int) - 1 - ((i + 1 : Nat) : Int) := by omega
    rw [e2] at st'
    have I1 : Inv X pins σ H { s with heap := h', toks := tk } := I.turned (t' := tk) (fun b o hb e => (sb.2 b hb).trans e) f0 f1 f3 f4 f5
    obtain ⟨o, e, c, d⟩ := id st'
    exact ⟨_, rfl, go_of (s := { s with heap := h', toks := tk }) e c d (by decide) ⟨.str ⟨#[x.cps[x.cps.size - 1 - i]]⟩, H, I1, ⟨u, rfl⟩, ⟨rfl, _, hcx, rfl⟩, ⟨hlt, st'⟩, fun b hb => (hf b hb).1⟩⟩
  done := by
    intro X hP hw hK hc i pins s σ H E I hf st hg
    subst hP hw hK
    obtain ⟨f0, f1, f2, f3, f4, f5⟩ := hf it (by simp)
    obtain ⟨hin, hit⟩ := st
    have hge : x.cps.size ≤ i := hg
    have e1 : (x.cps.size : Int) - 1 - ((i : Nat) : Int) = -1 := by omega
    rw [e1] at hit
    exact rs_end (I.ok.hd hc) hit fun h' eb => ⟨rfl, I.turned (t' := s.toks) (fun b o hb e => eb b o hb e) f0 f1 f3 f4 f5⟩
  self := fun A i s Q E st h => rs_iter st.2 h
/-- for .. in reversed(text) -/
def iRevS (te : TE) : TI := fun σ H R => te σ H fun v H1 => ∃ z : Str, v = .str z ∧ z.length ≤ sizeLine ∧ R (ItRs z) H1
theorem pi_revS {X : Cx} {tg e : Expr} {te : TE} {p pos : Pos} (hg : Gl X "reversed") (hm : X.mg "reversed" = none) (he : PE X e te) (hs : starEach [e] X.env = (false, eval e X.env) :: starEach [] X.env) : PI X tg (.Call (.Name "reversed" p) [e] [] pos) (iRevS te) := by
  refine ⟨fun pins s σ H R I h => ?_⟩
  refine Call_ (ld_blt I hg hm PyProof.Rows.boot_reversed (PyProof.Rows.callWith_type1 (args_cons (thn (he.run pins s σ H _ I h) fun u s1 ⟨v, H1, I1, r1, q1⟩ => args_nil ?_) hs) hs rfl))
  obtain ⟨z, rfl, hz, q⟩ := q1
  obtain ⟨t, rfl⟩ := r1
  refine rs_call hz (rs_iter (i := ((z.length : Nat) : Int) - 1) ⟨_, Heap.get?_push_size _ rfl, rfl, rfl⟩ ?_)
  refine pi_one (tk := s1.toks + 1 + 1) I1 _ (turn_rs _ z t hz) ⟨Nat.zero_le _, ?_⟩ q
  rw [show ((z.cps.size : Nat) : Int) - 1 - ((0 : Nat) : Int) = ((z.length : Nat) : Int) - 1 by show ((z.cps.size : Nat) : Int) - 1 - 0 = (z.cps.size : Int) - 1; omega]
  exact ⟨_, Heap.get?_push_size _ rfl, rfl, rfl⟩
end GF

set_option Elab.async false
set_option linter.all false
set_option maxRecDepth 100000
set_option autoImplicit false
set_option maxHeartbeats 1000000
namespace GF
open PySem PySem.Spec PyProof.Rows L2 RT HT
/-! ### x[::-1] of texts and tuples, xs[1::2] -/
theorem rev_idx (n : Nat) : sliceRange ((n : Int) - 1) (-1) (-1) = (List.range n).reverse := by
  rw [PySem.W.krv_sliceRange, PySem.W.krv_range]
theorem rev_all {α : Type} (xs : Array α) : ((List.range xs.size).reverse.filterMap (xs[·]?)) = xs.toList.reverse := by
  rw [List.filterMap_reverse, PySem.W.krv_all]
/-- x[::-1] -/
theorem at_step {X : Cx} {e : Expr} {te : TE} {p3 pos : Pos} {st : Expr} {c : Int} {tst : TO} {Pz : V → Hp → VK → Prop} (he : PE X e te) (hst : PO X (some st) tst) (hz : ∀ σ H (Q : Option Int → Hp → Prop), Q (some c) H → tst σ H Q)
    (lo : Option Expr) (clo : Option Int) (tlo : TO) (hlo : PO X lo tlo) (hzl : ∀ σ H (Q : Option Int → Hp → Prop), Q clo H → tlo σ H Q)
    (go : ∀ (pins : List (Ad × Obj)) (s : Shared) (σ : St') (H : Hp) (x : V) (v vl vs : Value) (sl : Ad) (Q : VK), Inv X pins σ H s → RelV x v → s.heap.IsSliceOf sl vl .none vs → IsPart vl clo → IsPart vs (some c) → Pz x H Q →
      ∃ T id, typeLookup (.type T) "__getitem__" = pure (some (.builtin id)) ∧ s.TypeIs v T ∧ wpAny (model X.prog X.w) X.A (getItem v (.ref sl)) (EP X pins σ Q) X.xe s) :
    PE X (.Subscript e (.Slice lo none (some st) p3) pos) (fun σ H Q => te σ H fun x H1 => Pz x H1 Q) := by
  refine ⟨fun pins s σ H Q I h => ?_⟩
  refine Subscript_ (thn (he.run pins s σ H _ I h) fun v s1 ⟨x, H1, I1, r1, q1⟩ => ?_)
  refine wpAny_Slice (thn (hlo.run pins s1 σ H1 (fun o H2 => o = clo ∧ H2 = H1) I1 (hzl _ _ _ ⟨rfl, rfl⟩)) fun vl s2 ⟨l, H2, I2, pl, el, e2⟩ => ?_)
  subst el e2
  refine thn (po_none.run pins s2 σ H2 (fun o H3 => o = none ∧ H3 = H2) I2 ⟨rfl, rfl⟩) fun vu s3 ⟨u, H3, I3, pu, eu, e3⟩ => ?_
  subst eu e3
  cases pu
  refine thn (hst.run pins s3 σ H3 (fun o H4 => o = some c ∧ H4 = H3) I3 (hz _ _ _ ⟨rfl, rfl⟩)) fun vs s4 ⟨o, H4, I4, ps, eo, e4⟩ => ?_
  subst eo e4
  have I5 : Inv X pins σ H4 { s4 with heap := s4.heap.push { cls := .type "slice", data := .fields #[vl, .none, vs] } } := I4.kept (t' := s4.toks) fun b ob q => Heap.get?_push_of_some _ q
  obtain ⟨T, id, hT, ht, hg⟩ := go pins { s4 with heap := s4.heap.push { cls := .type "slice", data := .fields #[vl, .none, vs] } } σ H4 x v vl vs s4.heap.objs.size Q I5 r1 (Heap.IsSliceOf.new _ vl .none vs) pl ps q1
  show wpAny (model X.prog X.w) X.A (subscriptTail e (.Slice lo none (some st) p3) v (.ref s4.heap.objs.size)) (EP X pins σ Q) X.xe { s4 with heap := s4.heap.push { cls := .type "slice", data := .fields #[vl, .none, vs] } }
  exact tail_any (ops := [v, .ref s4.heap.objs.size]) ht hT hg (by with_unfolding_all rfl)
theorem po_neg1 {X : Cx} {k : Nat} {p1 p2 : Pos} : PO X (some (.UnaryOp .USub (.Constant (.int 1) k p1) p2)) (tPart (tUn (rU fun i => .int (-i)) (tC (.int 1)))) := po_some (pe_un un_neg pe_int)
theorem po_int {X : Cx} {k : Nat} {p1 : Pos} (i : Int) : PO X (some (.Constant (.int i) k p1)) (tPart (tC (.int i))) := po_some pe_int
/-- list[::-1] -/
def tRev (Pz : V → Hp → VK → Prop) (te : TE) : TE := fun σ H Q => te σ H fun x H1 => Pz x H1 Q
def rRevL (K : PySem.W.Frag) : V → Hp → VK → Prop := fun x H Q => ∃ a xs, x = .ref a ∧ SqL K H a xs ∧ ∀ p, H p = none → Q (.ref p) (upd H p (.lst xs.reverse))
def rRevT (K : PySem.W.Frag) : V → Hp → VK → Prop := fun x H Q => ∃ a xs, x = .ref a ∧ SqT K H a xs ∧ ∀ p, H p = none → Q (.ref p) (upd H p (.tup xs.reverse))
def rRevS : V → Hp → VK → Prop := fun x H Q => ∃ z : Str, x = .str z ∧ z.length ≤ sizeLine ∧ Q (.str ⟨z.cps.toList.reverse.toArray⟩) H
theorem odds_len {α : Type} : ∀ xs : List α, (odds xs).length = xs.length / 2
  | [] => by simp [odds]
  | [_] => by simp [odds]
  | _ :: b :: r => by simp [odds, odds_len r]; omega
def rOddL (K : PySem.W.Frag) : V → Hp → VK → Prop := fun x H Q => ∃ a xs, x = .ref a ∧ SqL K H a xs ∧ ∀ p, H p = none → Q (.ref p) (upd H p (.lst (odds xs)))
theorem odd_list {α : Type} : ∀ (m : Nat) (xs : List α), xs.length / 2 = m → ((List.range m).map fun k => 1 + 2 * k).filterMap (xs[·]?) = odds xs
  | 0, [], _ => rfl
  | 0, [_], _ => rfl
  | 0, _ :: _ :: _, h => by simp at h; omega
  | m + 1, [], h => by simp at h
  | m + 1, [_], h => by simp at h
  | m + 1, a :: b :: r, h => by
    have ih := odd_list m r (by simp at h; omega)
    rw [List.range_succ_eq_map, List.map_cons, List.map_map]
    have e : ((fun k => 1 + 2 * k) ∘ Nat.succ) = fun k => (1 + 2 * k) + 2 := by funext k; simp [Function.comp]; omega
    rw [e]
    rw [List.filterMap_cons]
    have e0 : (a :: b :: r)[1 + 2 * 0]? = some b := rfl
    simp only [e0]
    rw [show odds (a :: b :: r) = b :: odds r from rfl, ← ih, List.filterMap_map, List.filterMap_map]
    rfl
theorem odd_pick (items : Array Value) : slicePick items (some 1) none (some 2) = (odds items.toList).toArray := by
  unfold slicePick
  have hb : sliceBounds (some 1) none (some 2) items.size = (max 0 (min 1 (items.size : Int)), (items.size : Int), 2) := rfl
  rw [hb]
  show ((sliceRange (max 0 (min 1 (items.size : Int))) (items.size : Int) 2).filterMap (items[·]?)).toArray = _
  have hr : sliceRange (max 0 (min 1 (items.size : Int))) (items.size : Int) 2 = (List.range (items.size / 2)).map fun k => 1 + 2 * k := by
    unfold sliceRange
    simp only [show (2 : Int) > 0 by decide, if_true]
    by_cases h : 2 ≤ items.size
    · rw [show max 0 (min 1 (items.size : Int)) = 1 by omega, if_pos (by omega)]
      have e : (((items.size : Int) - 1 + 2 - 1) / 2).toNat = items.size / 2 := by omega
      rw [e]
      apply List.map_congr_left
      intro k _
      omega
    · have e : (if max 0 (min 1 (items.size : Int)) < (items.size : Int) then ((items.size : Int) - max 0 (min 1 (items.size : Int)) + 2 - 1) / 2 else 0).toNat = 0 := by
        rw [if_neg (by omega)]; rfl
      rw [e, show items.size / 2 = 0 by omega]
      rfl
  rw [hr]
  have := odd_list (items.size / 2) items.toList (by rw [Array.length_toList])
  rw [← this]
  congr 2
  funext i
  rw [Array.getElem?_toList]
section
variable {X : Cx} {e : Expr} {te : TE} {k k2 : Nat} {p1 p2 p3 pos : Pos}
theorem neg1_go {σ : St'} {H : Hp} {Q : Option Int → Hp → Prop} (h : Q (some (-1)) H) : tPart (tUn (rU fun i => .int (-i)) (tC (.int 1))) σ H Q := ⟨1, rfl, -1, rfl, h⟩
theorem int_go {i : Int} {σ : St'} {H : Hp} {Q : Option Int → Hp → Prop} (h : Q (some i) H) : tPart (tC (.int i)) σ H Q := ⟨i, rfl, h⟩
theorem pe_rev (he : PE X e te) {Pz : V → Hp → VK → Prop} (go : ∀ (pins : List (Ad × Obj)) (s : Shared) (σ : St') (H : Hp) (x : V) (v vl vs : Value) (sl : Ad) (Q : VK), Inv X pins σ H s → RelV x v → s.heap.IsSliceOf sl vl .none vs → IsPart vl none → IsPart vs (some (-1)) → Pz x H Q →
      ∃ T id, typeLookup (.type T) "__getitem__" = pure (some (.builtin id)) ∧ s.TypeIs v T ∧ wpAny (model X.prog X.w) X.A (getItem v (.ref sl)) (EP X pins σ Q) X.xe s) :
    PE X (.Subscript e (.Slice none none (some (.UnaryOp .USub (.Constant (.int 1) k p1) p2)) p3) pos) (tRev Pz te) := at_step he po_neg1 (fun _ _ _ h => neg1_go h) none none _ po_none (fun _ _ _ h => h) go
end
section
variable {X : Cx} {e : Expr} {te : TE} {k k2 : Nat} {p1 p2 p3 pos : Pos}
theorem pe_rvL (he : PE X e te) : PE X (.Subscript e (.Slice none none (some (.UnaryOp .USub (.Constant (.int 1) k p1) p2)) p3) pos) (tRev (rRevL X.K) te) := by
  refine pe_rev he fun pins s σ H x v vl vs sl Q I rx hs pl ps h => ?_
  obtain ⟨a, xs, rfl, hx, q⟩ := h
  cases rx
  obtain ⟨its, r, ht, hz⟩ := I.list hx
  have hlen := r.length
  refine ⟨"list", _, PySem.slot_list_getitem.lookup, ht.isList.typeIs, wpAny_getItem_list_slice ht.isList hs pl .none ps (by decide) ?_ (by rw [List.size_toArray]; omega)⟩
  rw [PySem.W.krv_pick]
  exact ⟨.ref _, _, I.laid (t' := s.toks) (o := .lst xs.reverse) (fun b ob q => Heap.get?_push_of_some _ q) (Nat.le_refl _) ⟨by rw [List.length_reverse]; exact hz, _, 0, r.reverse, Heap.get?_push_size _ rfl⟩, rfl, q _ (I.hok.fresh (Nat.le_refl _))⟩
theorem vals_odds : ∀ {xs : List V} {us : List Value}, Vals xs us → Vals (odds xs) (odds us)
  | [], [], _ => .nil
  | [_], [_], _ => .nil
  | _ :: _ :: _, _ :: _ :: _, .cons _ (.cons r t) => .cons r (vals_odds t)
theorem pe_odd (he : PE X e te) : PE X (.Subscript e (.Slice (some (.Constant (.int 1) k p1)) none (some (.Constant (.int 2) k2 p2)) p3) pos) (tRev (rOddL X.K) te) := by
  refine at_step he (po_int 2) (fun _ _ _ h => int_go h) _ (some 1) _ (po_int 1) (fun _ _ _ h => int_go h) fun pins s σ H x v vl vs sl Q I rx hs pl ps h => ?_
  obtain ⟨a, xs, rfl, hx, q⟩ := h
  cases rx
  obtain ⟨its, r, ht, hz⟩ := I.list hx
  have hlen := r.length
  refine ⟨"list", _, PySem.slot_list_getitem.lookup, ht.isList.typeIs, wpAny_getItem_list_slice ht.isList hs pl .none ps (by decide) ?_ (by rw [List.size_toArray]; omega)⟩
  rw [odd_pick]
  exact ⟨.ref _, _, I.laid (t' := s.toks) (o := .lst (odds xs)) (fun b ob q => Heap.get?_push_of_some _ q) (Nat.le_refl _) ⟨by rw [odds_len]; omega, _, 0, vals_odds r, Heap.get?_push_size _ rfl⟩, rfl, q _ (I.hok.fresh (Nat.le_refl _))⟩
theorem pe_rvS (he : PE X e te) : PE X (.Subscript e (.Slice none none (some (.UnaryOp .USub (.Constant (.int 1) k p1) p2)) p3) pos) (tRev rRevS te) := by
  refine pe_rev he fun pins s σ H x v vl vs sl Q I rx hs pl ps h => ?_
  obtain ⟨z, rfl, hz, q⟩ := h
  obtain ⟨t, rfl⟩ := rx
  obtain ⟨os, hos, hcs, hds⟩ := hs
  cases pl
  obtain ⟨u, rfl, hu⟩ := IsPart.raw ps
  obtain ⟨tk, rfl⟩ : ∃ tk, u = some (-1, tk) := by
    cases u with
    | none => simp at hu
    | some y =>
      obtain ⟨c, tk⟩ := y
      simp at hu
      exact ⟨tk, by rw [hu]⟩
  refine ⟨"str", _, F.slot_str_getitem.lookup, typeIs_str _ _ _, ?_⟩
  refine wpAny_getItem_str_slice (l := none) (u := none) (st := some (-1, tk)) ⟨os, hos, hcs, hds⟩ rfl ?_
  have e1 : slicePicked z none none (some (-1, tk)) = (List.range z.cps.size).reverse := rev_idx z.cps.size
  have e2 : sliceMade z t none none (some (-1, tk)) = Made.str ⟨z.cps.toList.reverse.toArray⟩ := by
    unfold sliceMade
    rw [if_neg (by simp), e1, rev_all]
  rw [e2]
  have hl : (⟨z.cps.toList.reverse.toArray⟩ : Str).length ≤ sizeLine := by
    show z.cps.toList.reverse.toArray.size ≤ sizeLine
    rw [List.size_toArray, List.length_reverse, Array.length_toList]
    exact hz
  exact ⟨hl, .str _, H, I.tok _, ⟨_, rfl⟩, q⟩
end
section
variable {prog : Program} {w : World} {A : Around} {E : Value → Shared → Prop} {s : Shared}
theorem applied_rev {sl : Ad} {vl vs : Value} {n : Nat} {Q : Int × Int × Nat → Shared → Prop} (hs : s.heap.IsSliceOf sl vl .none vs) (pl : IsPart vl none) (ps : IsPart vs (some (-1)))
    (h : Q (((n : Int) - 1), -1, n) s) : wpAny (model prog w) A (Builtin.Slice.sliceApplied (.ref sl) (pure (n : Int))) Q E s := by
  obtain ⟨os, hos, hcs, hds⟩ := id hs
  unfold Builtin.Slice.sliceApplied Builtin.Slice.sliceFields
  refine wpAny_bind (wpAny_bind (wpAny_field hos hds (x := vl) rfl (wpAny_bind (wpAny_field hos hds (x := .none) rfl (wpAny_bind (wpAny_field hos hds (x := vs) rfl (wpAny_pure ?_)))))))
  refine wpAny_bind (slicePart_ ps ?_)
  show wpAny _ _ (if ((-1 : Int) == 0) = true then _ else _) _ _ s
  rw [if_neg (by decide)]
  refine wpAny_bind (slicePart_ pl (wpAny_bind (slicePart_none (wpAny_bind (wpAny_pure ?_)))))
  show wpAny _ _ (pure ((n : Int) - 1, (-1 : Int), Builtin.Slice.slicePlaces ((n : Int) - 1) (-1) (-1))) _ _ s
  have e : Builtin.Slice.slicePlaces ((n : Int) - 1) (-1) (-1) = n := by
    unfold Builtin.Slice.slicePlaces
    rw [if_neg (by decide)]
    by_cases h : (n : Int) - 1 > -1
    · rw [if_pos h, show (-(-1) : Int) = 1 by decide, Int.ediv_one]; omega
    · rw [if_neg h]; omega
  rw [e]
  exact wpAny_pure h
theorem pick_rev (xs : Array Value) : ((List.range xs.size).filterMap fun (m : Nat) => xs[((xs.size : Int) - 1 + (m : Int) * -1).toNat]?) = xs.toList.reverse := by
  have key : ∀ (l : List Nat) (f g : Nat → Option Value), (∀ m ∈ l, f m = g m) → l.filterMap f = l.filterMap g := by
    intro l f g
    induction l with
    | nil => intro _; rfl
    | cons a l ih => intro h; rw [List.filterMap_cons, List.filterMap_cons, h a (by simp), ih fun m hm => h m (by simp [hm])]
  rw [← rev_all, ← PySem.W.krv_range, List.filterMap_map]
  refine key _ _ _ fun m hm => ?_
  have := List.mem_range.mp hm
  show xs[((xs.size : Int) - 1 + (m : Int) * -1).toNat]? = xs[xs.size - 1 - m]?
  congr 1
  omega
theorem get_revT {t sl : Ad} {items : Array Value} {vl vs : Value} {Q : Value → Shared → Prop} (ht : IsTup s.heap t items) (hs : s.heap.IsSliceOf sl vl .none vs) (pl : IsPart vl none) (ps : IsPart vs (some (-1)))
    (h : Q (.ref s.heap.objs.size) { s with heap := s.heap.push { cls := .type "tuple", data := .seq items.toList.reverse.toArray } })
    (hsz : items.size ≤ sizeLine) : wpAny (model prog w) A (getItem (.ref t) (.ref sl)) Q E s := by
  have htake : sizeOk (.seq items.toList.reverse.toArray) := by
    show items.toList.reverse.toArray.size ≤ sizeLine
    rw [List.size_toArray, List.length_reverse, Array.length_toList]
    exact hsz
  obtain ⟨os, hos, hcs, hds⟩ := id hs
  have hTs : s.TypeIs (.ref sl) "slice" := ⟨os, hos, hcs⟩
  unfold getItem
  try with_reducible refine wpAny_holding ?_
  first | refine wpAny_bind (wpAny_pure ?_) | skip
  refine wpAny_bind (wpAny_sequenceKey ht.typeIs (by decide) ?_)
  refine wpAny_bind (wpAny_callSpecial?_slot (name := Str.ofString "__getitem__") ht.typeIs PyProof.Rows.slot_tuple_getitem
    (wpAny_call_entry PyProof.Rows.slot_tuple_getitem ht.typeIs entry_tuple_getitem ?_ (args_tuple_getitem _ _)))
  show wpAny _ _ (Builtin.Tuple.tupleItemsOf (.ref t) >>= _) _ _ s
  refine wpAny_bind (tupleItemsOf_ ht ?_)
  refine wpAny_bind (wpAny_typeOf hTs ?_)
  rw [if_pos (by decide)]
  refine wpAny_bind (applied_rev hs pl ps ?_)
  have hno : ¬ ((((items.size : Int) - 1) == 0 && (-1 : Int) == 1 && items.size == items.size) = true) := by simp
  show wpAny _ _ (if (((items.size : Int) - 1) == 0 && (-1 : Int) == 1 && items.size == items.size) = true then _ else _) _ _ s
  rw [if_neg hno, pick_rev]
  first
    | exact wpAny_newObj_type (wpAny_pure ⟨_, rfl, wpAny_pure h⟩) htake
    | exact wpAny_bind (wpAny_newObj_type (wpAny_pure ⟨_, rfl, wpAny_pure h⟩) htake)
    | exact wpAny_bind (wpAny_newObj_type (wpAny_bind (wpAny_pure (wpAny_pure ⟨_, rfl, wpAny_pure h⟩))) htake)
    | exact wpAny_bind (m := Builtin.Tuple.tupleExact _) (wpAny_newObj_type (wpAny_pure ⟨_, rfl, wpAny_pure h⟩) htake)
    | exact wpAny_bind (m := Builtin.Tuple.tupleExact _) (wpAny_newObj_type (wpAny_bind (wpAny_pure (wpAny_pure ⟨_, rfl, wpAny_pure h⟩))) htake)
    | exact wpAny_bind (wpAny_bind (m := Builtin.Tuple.tupleExact _) (wpAny_newObj_type (wpAny_pure (wpAny_pure ⟨_, rfl, wpAny_pure h⟩)) htake))
end
section
variable {X : Cx} {e : Expr} {te : TE} {k k2 : Nat} {p1 p2 p3 pos : Pos}
theorem pe_rvT (he : PE X e te) : PE X (.Subscript e (.Slice none none (some (.UnaryOp .USub (.Constant (.int 1) k p1) p2)) p3) pos) (tRev (rRevT X.K) te) := by
  refine pe_rev he fun pins s σ H x v vl vs sl Q I rx hs pl ps h => ?_
  obtain ⟨a, xs, rfl, hx, q⟩ := h
  cases rx
  obtain ⟨its, r, ht, hz⟩ := I.tuple hx
  have hlen := r.length
  refine ⟨"tuple", _, PyProof.Rows.slot_tuple_getitem.lookup, ht.typeIs, get_revT ht hs pl ps ?_ (by rw [List.size_toArray]; omega)⟩
  refine ⟨.ref s.heap.objs.size, _, I.laid (t' := s.toks) (o := .tup xs.reverse) (fun b ob q => Heap.get?_push_of_some _ q) (Nat.le_refl _) ?_, rfl, q _ (I.hok.fresh (Nat.le_refl _))⟩
  exact ⟨by rw [List.length_reverse]; exact hz, _, r.reverse, IsTup.new _ _⟩
/-- any of the three -/
theorem pe_rvA (he : PE X e te) : PE X (.Subscript e (.Slice none none (some (.UnaryOp .USub (.Constant (.int 1) k p1) p2)) p3) pos) (tRev (fun x H Q => rRevS x H Q ∨ rRevT X.K x H Q) te) := by
  refine pe_rev he fun pins s σ H x v vl vs sl Q I rx hs pl ps h => ?_
  rcases h with ⟨z, rfl, hz, q⟩ | ⟨a, xs, rfl, hx, q⟩
  · obtain ⟨t, rfl⟩ := rx
    obtain ⟨os, hos, hcs, hds⟩ := hs
    cases pl
    obtain ⟨u, rfl, hu⟩ := IsPart.raw ps
    obtain ⟨tk, rfl⟩ : ∃ tk, u = some (-1, tk) := by
      cases u with
      | none => simp at hu
      | some y =>
        obtain ⟨c, tk⟩ := y
        simp at hu
        exact ⟨tk, by rw [hu]⟩
    refine ⟨"str", _, F.slot_str_getitem.lookup, typeIs_str _ _ _, wpAny_getItem_str_slice (l := none) (u := none) (st := some (-1, tk)) ⟨os, hos, hcs, hds⟩ rfl ?_⟩
    have e2 : sliceMade z t none none (some (-1, tk)) = Made.str ⟨z.cps.toList.reverse.toArray⟩ := by
      unfold sliceMade
      rw [if_neg (by simp), show slicePicked z none none (some (-1, tk)) = (List.range z.cps.size).reverse from rev_idx z.cps.size, rev_all]
    rw [e2]
    refine ⟨?_, .str _, H, I.tok _, ⟨_, rfl⟩, q⟩
    show z.cps.toList.reverse.toArray.size ≤ sizeLine
    rw [List.size_toArray, List.length_reverse, Array.length_toList]
    exact hz
  · cases rx
    obtain ⟨its, r, ht, hz⟩ := I.tuple hx
    have hlen := r.length
    refine ⟨"tuple", _, PyProof.Rows.slot_tuple_getitem.lookup, ht.typeIs, get_revT ht hs pl ps ?_ (by rw [List.size_toArray]; omega)⟩
    refine ⟨.ref s.heap.objs.size, _, I.laid (t' := s.toks) (o := .tup xs.reverse) (fun b ob q => Heap.get?_push_of_some _ q) (Nat.le_refl _) ?_, rfl, q _ (I.hok.fresh (Nat.le_refl _))⟩
    exact ⟨by rw [List.length_reverse]; exact hz, _, r.reverse, IsTup.new _ _⟩
end
end GF

set_option Elab.async false
set_option linter.all false
set_option maxRecDepth 100000
set_option autoImplicit false
set_option maxHeartbeats 1000000
namespace GF
open PySem PySem.Spec PyProof.Rows L2

/-! ### what is wanted behind a term -/
def PstE {α : Type} (G : Ge) (P : Hp) (eA : EA) (W : WX) (F : Hp) (A : List Ad) (σ : St') (r : R α) (Q : α → S → Hp → List Ad → Hp → Prop) : Prop := match r with
  | .ok a s' => ∀ F' A' H', Ext F F' → A <+: A' → RelS G P eA s' F' A' σ H' → Q a s' F' A' H'
  | .exc c fs s' => ∀ C d F' A' H', Ext F F' → A <+: A' → RelS G P eA s' F' A' σ H' → ExnR G F' c fs C d → W (.ref C) d σ H'
  | .stuck => False
section
variable {α β : Type} {G : Ge} {P : Hp} {eA : EA} {W : WX} {F F' : Hp} {A A' : List Ad} {σ : St'} {H : Hp} {s : S} {r : R α} {Q Q' : α → S → Hp → List Ad → Hp → Prop}
theorem PstE.mono (e : Ext F F') (p : A <+: A') (h : PstE G P eA W F A σ r Q) : PstE G P eA W F' A' σ r Q := by
  cases r with
  | ok a s' => exact fun F1 A1 H1 e1 p1 => h F1 A1 H1 (e.trans e1) (p.trans p1)
  | exc c fs s' => exact fun C d F1 A1 H1 e1 p1 => h C d F1 A1 H1 (e.trans e1) (p.trans p1)
  | stuck => exact h
theorem PstE.imp (h : PstE G P eA W F A σ r Q) (hq : ∀ a s' F' A' H', Ext F F' → A <+: A' → RelS G P eA s' F' A' σ H' → Q a s' F' A' H' → Q' a s' F' A' H') : PstE G P eA W F A σ r Q' := by
  cases r with
  | ok a s' => exact fun F1 A1 H1 e1 p1 R1 => hq a s' F1 A1 H1 e1 p1 R1 (h F1 A1 H1 e1 p1 R1)
  | exc c fs s' => exact h
  | stuck => exact h
theorem PstE.split {f : α → S → R β} {Q : β → S → Hp → List Ad → Hp → Prop} (h : PstE G P eA W F A σ (r.bind f) Q) : PstE G P eA W F A σ r fun a s' F' A' _ => PstE G P eA W F' A' σ (f a s') Q := by
  cases r with
  | ok a s' => exact fun F1 A1 H1 e1 p1 _ => PstE.mono e1 p1 (show PstE G P eA W F A σ (f a s') Q from h)
  | exc c fs s' => exact h
  | stuck => exact h
theorem PstE.now {a : α} (h : PstE G P eA W F A σ (.ok a s) Q) (r : RelS G P eA s F A σ H) : Q a s F A H := h F A H Ext.refl (List.prefix_refl _) r
theorem PstE.optR {o : Option β} {f : β → α} (h : PstE G P eA W F A σ (optR o s f) Q) : ∃ b, o = some b ∧ PstE G P eA W F A σ (.ok (f b) s) Q := by
  cases o with
  | some b => exact ⟨b, rfl, h⟩
  | none => exact h.elim
end
section
variable (G : Ge) (P : Hp) (eA : EA) (W : WX)
def TV (m : S → R Sl) : TE := fun σ H K => ∃ s F A, RelS G P eA s F A σ H ∧ PstE G P eA W F A σ (m s) fun v _ F' A' H' => ∀ u, RepS G F' A' eA v u → K u H'
def TBo (m : S → R Bool) : TT := fun σ H K => ∃ s F A, RelS G P eA s F A σ H ∧ PstE G P eA W F A σ (m s) fun b _ _ _ H' => K b H'
def TNe (m : S → R (List D)) : TE := fun σ H K => ∃ s F A, RelS G P eA s F A σ H ∧ PstE G P eA W F A σ (m s) fun ds _ F' A' H' => ∀ a vs, H' a = some (.lst vs) → F' a = none → P a = none → a ∉ A' → Reps G F' ds vs → K (.ref a) H'
def TAr (m : S → R (List Sl)) : TA := fun σ H K => ∃ s F A, RelS G P eA s F A σ H ∧ PstE G P eA W F A σ (m s) fun vs _ F' A' H' => ∀ us, RepSs G F' A' eA vs us → K us H'
def TPo (m : S → R (Option Int)) : TO := fun σ H K => ∃ s F A, RelS G P eA s F A σ H ∧ PstE G P eA W F A σ (m s) fun o _ _ _ H' => K o H'
end
section
variable {G : Ge} {P : Hp} {eA : EA} {W : WX} {F F' : Hp} {A A' : List Ad} {σ : St'} {H H' : Hp} {s : S}
/-- the end of an expression with a datum -/
theorem PstE.ansD {z : D} {Q : VK} (r : RelS G P eA s F A σ H) (h : PstE G P eA W F A σ (.ok (.d z) s) fun v _ F' A' H' => ∀ u, RepS G F' A' eA v u → Q u H') : AnsD G P s.M F A z Q := fun u F' H' e m q => h F' A H' e (List.prefix_refl _) (r.mono' e m) u q
theorem PstE.ansDM {z : D} {Q : VK} {M' : List D} (r : RelS G P eA s F A σ H) (h : PstE G P eA W F A σ (.ok (.d z) ⟨s.ρ, M'⟩) fun v _ F' A' H' => ∀ u, RepS G F' A' eA v u → Q u H') : AnsD G P M' F A z Q := fun u F' H' e m q => h F' A H' e (List.prefix_refl _) (r.mono e (List.prefix_refl _) m) u q
theorem PstE.ansN {ds : List D} {Q : VK} (r : RelS G P eA s F A σ H) (h : PstE G P eA W F A σ (.ok ds s) fun ds _ F' A' H' => ∀ a vs, H' a = some (.lst vs) → F' a = none → P a = none → a ∉ A' → Reps G F' ds vs → Q (.ref a) H') : AnsN G P s.M F A ds Q :=
  fun a vs F' H' e m h1 h2 h3 h4 h5 => h F' A H' e (List.prefix_refl _) (r.mono' e m) a vs h1 h2 h3 h4 h5
end

/-! ### what a function promises -/
def RvR (G : Ge) (P : Hp) (F : Hp) (A : List Ad) (H : Hp) : Rv → V → Prop
  | .d x, u => Rep G F x u
  | .new xs, u => ∃ a vs, u = .ref a ∧ H a = some (.lst vs) ∧ F a = none ∧ P a = none ∧ a ∉ A ∧ Reps G F xs vs
def spOf (G : Ge) (φ : FM) (n : Nat) : Sp := fun vs H Q E => vs.length = n ∧ ∃ as M F A P, RepSs G F A none as vs ∧ RelM G P M F A H ∧ match φ as M with
  | .ret v M' => ∀ u F' H', Ext F F' → RelM G P M' F' A H' → RvR G P F' A H' v u → Q u H'
  | .exc c fs M' => ∀ C d F' H', Ext F F' → RelM G P M' F' A H' → ExnR G F' c fs C d → E (.ref C) d H'
  | .stuck => False

/-! ### a call wherever one stands, of a def that walks no loop and raises nothing: whatever is being handled -/
structure FnQ (P : Program) (w : World) (K : PySem.W.Frag) (mg : Str → Option Value) (base : Heap) (k : Nat) (f : Ad) (fd : FuncData) (ps : List Str) (sp : Sp) : Prop where
  len : ∀ vs H Q E, sp vs H Q E → vs.length = ps.length
  run : ∀ (A : Around) (outer : List Env) (s : Shared) (H : Hp) (args : Args) (us : List Value) (vs : List V) (Q : VK) (E : XK), L2H.RoomH k A → Env0 P w K mg base A outer s H → BindsTo s fd args (ps.zip us) → Vals vs us → sp vs H Q E →
    codeAny (model P w) A (.call (.ref f) args) (CR (L2.CX P w) outer P w H s Q E) s
abbrev Around.bare (A : Around) : Around := { A with handled := none }
theorem inv_other {X : Cx} {pins : List (Ad × Obj)} {σ : St'} {H : Hp} {s : Shared} {A' : Around} {xe : Value → Shared → Prop} (I : Inv X pins σ H s) (hf : A'.frames = X.A.frames) : Inv { X with A := A', calm := false, xe := xe } pins σ H s :=
  ⟨⟨I.ok.mod, I.ok.kind, I.ok.glob, I.ok.blt, I.ok.above, I.ok.inj, I.ok.has, I.ok.cab, fun z => Bool.noConfusion z, hf.trans I.ok.frames, I.ok.stk, I.ok.exf, I.ok.bs, I.ok.bsz, I.ok.noex, I.ok.exfs, I.ok.funs, I.ok.frf⟩,
    I.os, I.bare, I.base, I.loc, I.cell, I.free, I.freeC, I.pin, I.hok, I.len⟩
/-- the context of such a def's body -/
def cxQ (P : Program) (w : World) (K : PySem.W.Frag) (mg : Str → Option Value) (base : Heap) (N : List Str) (qual : Str) (scope : Scope) (f : Ad) (cd : Value) (A : Around) (outer : List Env) (s : Shared) (H : Hp) (E : XK) : Cx :=
  { cxOf (L2.CX P w) P w K mg base N qual scope f cd A outer s H E with calm := false }
theorem fn_ofQ {P : Program} {w : World} {K : PySem.W.Frag} {mg : Str → Option Value} {base : Heap} {k : Nat} {f : Ad} {name qual : Str} {params : Arguments} {body : List Stmt} {scope : Scope} {dV kV doc pm cdv ct oc : Value} {an od : Option Ad}
    {osl : Array (Option Value)} {N ps : List Str} {sp : Sp} (lk : K.lookup f = some ⟨oc, od, .func (PySem.W.fnOf name qual params body scope dV kV doc pm an cdv ct), osl⟩) (hcd : PySem.W.codeIn K cdv qual = true) (S : FnScope N ps scope)
    (len : ∀ vs H Q E, sp vs H Q E → vs.length = ps.length)
    (hbody : ∀ (A : Around) (outer : List Env) (s : Shared) (H : Hp) (vs : List V) (Q : VK) (E : XK), L2H.RoomH k (A.deeper (envOfC qual scope s.heap.objs.size f cdv)) → sp vs H Q E →
      ∃ t, PSs (cxQ P w K mg base N qual scope f cdv A outer s H E) body t ∧ t { nx := fun _ H' => Q .non H', rt := Q } (start N vs) H) :
    FnQ P w K mg base (k + 1) f (PySem.W.fnOf name qual params body scope dV kV doc pm an cdv ct) ps sp := by
  refine ⟨len, fun A outer s H args us vs Q E hr e0 hb r hsp => ?_⟩
  have KX : K.In s.heap := e0.mod.kin.keeps fun b o e => (e0.bs b o e).1
  have lim : s.heap.NoLimit := e0.mod.nolimit.keeps fun b o e => (e0.bs b o e).1
  refine codeAny_call_function hr.depth (KX _ _ lk) rfl S.co S.gen rfl (PySem.W.codeRec_of KX hcd) (hb _ _ _ _ ?_)
  refine wpAny_newFunctionEnv_cells S.kind (fun y hy => ?_) fun env he s1 x => ?_
  · rcases S.par y.1 (List.of_mem_zip (show (y.1, y.2) ∈ ps.zip us from hy)).1 with q | q
    · exact .inl q
    · exact .inr ⟨q, PySem.W.cellsFrom_some _ _ _ (.inl q)⟩
  · subst he
    refine ⟨lim.keeps x.toInCall.keep, codeAny_func ?_⟩
    obtain ⟨t, ht, hq⟩ := hbody A outer s H vs Q E (hr.deeper _) hsp
    have e1 : Env0 P w K mg base (Around.bare A) outer s H := ⟨e0.frames, e0.mod, e0.bs, e0.bsz, e0.funs, e0.frf, e0.hok, e0.bare⟩
    have I0 : Inv (cxOf (L2.CX P w) P w K mg base N qual scope f cdv (Around.bare A) outer s H E) [] (start N vs) H s1 := inv_start S rfl e1 (len _ _ _ _ hsp) r x
    have I : Inv (cxQ P w K mg base N qual scope f cdv A outer s H E) [] (start N vs) H s1 :=
      inv_other (X := cxOf (L2.CX P w) P w K mg base N qual scope f cdv (Around.bare A) outer s H E) (A' := (cxQ P w K mg base N qual scope f cdv A outer s H E).A) (xe := (cxQ P w K mg base N qual scope f cdv A outer s H E).xe) I0 rfl
    refine wpAny_mono (ht.run [] s1 (start N vs) H _ I hq) (fun fl s' hs => ?_) fun e s' hs => hs
    cases fl with
    | ret u =>
      obtain ⟨v, σ', H', J, rv, q⟩ := hs
      exact ⟨v, H', J.os, J.bare, J.base, J.hok, rv, q⟩
    | next =>
      obtain ⟨σ', H', J, q⟩ := hs
      exact ⟨.non, H', J.os, J.bare, J.base, J.hok, rfl, q⟩
    | brk =>
      obtain ⟨_, _, _, q⟩ := hs
      exact q.elim
    | cont =>
      obtain ⟨_, _, _, q⟩ := hs
      exact q.elim
section
variable {X : Cx} {k : Nat} {f : Ad} {fd : FuncData} {ps : List Str} {sp : Sp} {dvs : List V} {dsv : List Value} {E : St' → XK} {x : Str} {p pos : Pos} {e : Expr} {es : List Expr} {t : TA}
theorem run_fnQ {pins : List (Ad × Obj)} {σ : St'} {H : Hp} {s : Shared} {Q : VK} {us : List Value} {vs : List V} (F : FnQ X.prog X.w X.K X.mg X.base k f fd ps sp) (hr : L2H.RoomH k X.A) (hb : Binds X.K fd ps dsv) (hd : Vals dvs dsv) (hx : PassesAt (L2.CX X.prog X.w) X σ (E σ))
    (I : Inv X pins σ H s) (r : Vals vs us) (h : sp (vs ++ dvs) H Q (E σ)) : wpAny (model X.prog X.w) X.A (call (.ref f) us) (EP X pins σ Q) X.xe s := by
  have hl : (us ++ dsv).length = ps.length := by rw [← (r.append hd).length]; exact F.len _ _ _ _ h
  refine wpAny_call (codeAny_mono (F.run X.A X.stack s H ⟨us, []⟩ (us ++ dsv) (vs ++ dvs) Q (E σ) hr I.env0 (hb s us I.kIn hl) (r.append hd) h) fun r s' hq => ?_)
  match r, hq with
  | .error e, hq => exact hx pins H s e s' I hq
  | .ok (.ret u), hq => exact I.after hq
theorem pe_callQ (F : FnQ X.prog X.w X.K X.mg X.base k f fd ps sp) (hr : L2H.RoomH k X.A) (hg : Gl X x) (hm : X.mg x = some (.ref f)) (hk : PySem.W.keepIn X.K (.ref f) = true) (hb : Binds X.K fd ps dsv) (hd : Vals dvs dsv) (hx : ∀ σ, PassesAt (L2.CX X.prog X.w) X σ (E σ))
    (ha : PA X (e :: es) t) (hdb : (x == ("__debug__" : Str)) = false) (he : starEach (e :: es) X.env = (false, eval e X.env) :: starEach es X.env) (hpl : (backTo pos (starEach es X.env)).any (·.1) = false) :
    PE X (.Call (.Name x p) (e :: es) [] pos) (tCallSD sp dvs E t) := by
  refine ⟨fun pins s σ H Q I h => ?_⟩
  refine wpAny_Call_Name_kw (ld_glob I hg hm ?_ hdb)
  exact PySem.W.callWith_K (h₀ := X.base) I.ok.mod.kin hk (thn (ha.run pos pins s σ H _ I h) fun us s1 ⟨vs, H1, I1, r, q⟩ => ⟨I1.kIn, run_fnQ F hr hb hd (hx σ) I1 r q⟩) he hpl
end
end GF

set_option Elab.async false
set_option linter.all false
set_option maxRecDepth 100000
set_option autoImplicit false
set_option maxHeartbeats 1000000
namespace GF
open PySem PySem.Spec PyProof.Rows L2

theorem nodup_of {α : Type} {l : List α} (h : ∀ (i j : Nat) (a : α), l[i]? = some a → l[j]? = some a → i = j) : l.Nodup := by
  refine List.pairwise_iff_getElem.mpr fun i j hi hj hij e => ?_
  have := h i j l[i] (List.getElem?_eq_getElem hi) (by rw [List.getElem?_eq_getElem hj, e])
  omega
theorem getAll_len : ∀ {js : List Nat} {M ms : List D}, getAll M js = some ms → ms.length = js.length
  | [], _, _, h => by cases h; rfl
  | j :: r, M, ms, h => by
    unfold getAll at h
    split at h
    · rename_i m ms' h1 h2
      cases h
      simp [getAll_len h2]
    · cases h
theorem getAll_at : ∀ {js : List Nat} {M ms : List D} {i j : Nat}, getAll M js = some ms → js[i]? = some j → ∃ m, ms[i]? = some m ∧ M[j]? = some m
  | [], _, _, _, _, _, e => by simp at e
  | j :: r, M, ms, i, j', h, e => by
    unfold getAll at h
    split at h
    · rename_i m ms' h1 h2
      cases h
      cases i with
      | zero => simp at e; subst e; exact ⟨m, rfl, h1⟩
      | succ i =>
        obtain ⟨m', h3, h4⟩ := getAll_at (i := i) h2 (by simpa using e)
        exact ⟨m', by simpa using h3, h4⟩
    · cases h
theorem setAll_len : ∀ (js : List Nat) (M ms : List D), (setAll M js ms).length = M.length
  | [], M, ms => by simp [setAll]
  | _ :: _, M, [] => by simp [setAll]
  | j :: r, M, m :: ms => by rw [setAll, setAll_len r]; simp
theorem setAll_out : ∀ {js : List Nat} {M ms : List D} {j : Nat}, j ∉ js → (setAll M js ms)[j]? = M[j]?
  | [], M, ms, _, _ => by simp [setAll]
  | _ :: _, M, [], _, _ => by simp [setAll]
  | k :: r, M, m :: ms, j, h => by
    rw [List.mem_cons, not_or] at h
    rw [setAll, setAll_out h.2, List.getElem?_set_ne (Ne.symm h.1)]
theorem setAll_at : ∀ {js : List Nat} {M ms : List D} {i j : Nat} {m : D}, js.Nodup → (∀ j ∈ js, j < M.length) → js[i]? = some j → ms[i]? = some m → (setAll M js ms)[j]? = some m
  | [], _, _, _, _, _, _, _, e, _ => by simp at e
  | _ :: _, _, [], _, _, _, _, _, _, e => by simp at e
  | k :: r, M, m :: ms, i, j, m', nd, hl, e1, e2 => by
    rw [setAll]
    cases i with
    | zero =>
      simp at e1 e2
      subst e1 e2
      rw [setAll_out (List.nodup_cons.mp nd).1, List.getElem?_set_self (hl _ List.mem_cons_self)]
    | succ i => exact setAll_at (i := i) (List.nodup_cons.mp nd).2 (fun j hj => by rw [List.length_set]; exact hl j (List.mem_cons_of_mem _ hj)) (by simpa using e1) (by simpa using e2)
theorem renum_rep {G : Ge} {F : Hp} {A B : List Ad} {eA : EA} : ∀ {vs : List Sl} {us : List V} (n : Nat), noExn vs = true → (∀ i j, (refsOf vs)[i]? = some j → ∃ a, A[j]? = some a ∧ B[n + i]? = some a) → RepSs G F A eA vs us → RepSs G F B none (renum n vs) us
  | [], _, _, _, _, .nil => .nil
  | .d x :: vs, _, n, h, hb, .cons r t => .cons r (renum_rep n h hb t)
  | .ref j :: vs, _, n, h, hb, .cons r t => by
    obtain ⟨a, h1, h2⟩ := r
    obtain ⟨a', h3, h4⟩ := hb 0 j rfl
    rw [h1] at h3
    cases h3
    exact .cons ⟨a, h4, h2⟩ (renum_rep (n + 1) h (fun i k e => by
      obtain ⟨b, k1, k2⟩ := hb (i + 1) k (by simpa [refsOf] using e)
      exact ⟨b, k1, by rw [show n + 1 + i = n + (i + 1) by omega]; exact k2⟩) t)
  | .exn _ _ :: _, _, _, h, _, _ => by cases h
section
variable {G : Ge} {P : Hp} {eA : EA} {W : WX} {F : Hp} {A : List Ad} {σ : St'} {H : Hp} {s : S}
/-- the callers' other cells are kept as they are -/
def guard (P : Hp) (A B : List Ad) (H : Hp) : Hp := fun a => if a ∈ A ∧ a ∉ B then H a else P a
theorem call_sp {φ : FM} {vs : List Sl} {us : List V} {Q0 : Rv → S → Hp → List Ad → Hp → Prop} {K : VK} (rs : RepSs G F A eA vs us) (r : RelS G P eA s F A σ H) (h : PstE G P eA W F A σ (callF φ vs s) Q0)
    (hq : ∀ v u s' F' H', RelS G P eA s' F' A σ H' → Ext F F' → RvR G P F' A H' v u → Q0 v s' F' A H' → K u H') : spOf G φ us.length us H K (WE W σ) := by
  unfold callF at h
  split at h
  · exact h.elim
  rename_i ms hg
  split at h
  case isFalse => exact h.elim
  rename_i hc
  obtain ⟨nd, hx⟩ := hc
  -- the cells handed over
  have hlen := getAll_len hg
  have inA : ∀ (i j : Nat), (refsOf vs)[i]? = some j → ∃ a, A[j]? = some a := fun i j e => by
    obtain ⟨m, _, h2⟩ := getAll_at hg e
    exact r.mem.lt h2
  let B : List Ad := (refsOf vs).map fun j => (A[j]?).getD 0
  have hB : ∀ (i j : Nat), (refsOf vs)[i]? = some j → ∃ a, A[j]? = some a ∧ B[i]? = some a := fun i j e => by
    obtain ⟨a, ha⟩ := inA i j e
    exact ⟨a, ha, by show ((refsOf vs).map _)[i]? = _; rw [List.getElem?_map, e]; simp [ha]⟩
  have hB' : ∀ (i : Nat) (b : Ad), B[i]? = some b → ∃ j, (refsOf vs)[i]? = some j ∧ A[j]? = some b := fun i b e => by
    have e' : ((refsOf vs).map fun j => (A[j]?).getD 0)[i]? = some b := e
    rw [List.getElem?_map] at e'
    obtain ⟨j, h1, h2⟩ := Option.map_eq_some_iff.mp e'
    obtain ⟨a, ha⟩ := inA i j h1
    rw [ha] at h2
    exact ⟨j, h1, by rw [ha]; exact congrArg some h2⟩
  have BA : ∀ b, b ∈ B → b ∈ A := fun b hb => by
    obtain ⟨i, hi, e⟩ := List.mem_iff_getElem.mp hb
    obtain ⟨j, _, h2⟩ := hB' i b (by rw [List.getElem?_eq_getElem hi, e])
    exact List.mem_of_getElem? h2
  have ndB : B.Nodup := by
    refine nodup_of fun i j b e1 e2 => ?_
    obtain ⟨j1, h1, h2⟩ := hB' i b e1
    obtain ⟨j2, h3, h4⟩ := hB' j b e2
    have e := nodup_at r.mem.nd h2 h4
    subst e
    exact nodup_at nd h1 h3
  have there : ∀ a, a ∈ A → ∃ o, H a = some o ∧ F a = none := fun a ha => by
    obtain ⟨j, hj, e⟩ := List.mem_iff_getElem.mp ha
    have e1 : A[j]? = some a := by rw [List.getElem?_eq_getElem hj, e]
    have hM : j < s.M.length := by rw [← r.mem.len]; exact hj
    obtain ⟨f1, c⟩ := r.mem.cells j a _ e1 (List.getElem?_eq_getElem hM)
    cases q : H a with
    | some o => exact ⟨o, rfl, f1⟩
    | none =>
      rw [q] at c
      cases hm : s.M[j] <;> rw [hm] at c <;> simp [CellR] at c
  have rel : RelM G (guard P A B H) ms F B H := by
    refine ⟨r.mem.ex, fun a o e => ?_, fun a o e => ?_, by simp [B, hlen], ndB, fun i a m e1 e2 => ?_⟩
    · unfold guard at e
      split at e
      · exact e
      · exact r.mem.pr a o e
    · unfold guard at e
      split at e
      · rename_i hh
        obtain ⟨_, _, f1⟩ := there a hh.1
        exact ⟨f1, hh.2⟩
      · exact ⟨(r.mem.pf a o e).1, fun hb => (r.mem.pf a o e).2 (BA a hb)⟩
    · obtain ⟨j, h1, h2⟩ := hB' i a e1
      obtain ⟨m', h3, h4⟩ := getAll_at hg h1
      rw [e2] at h3
      cases h3
      exact r.mem.cells j a m h2 h4
  have back : ∀ (ms' : List D) (F' : Hp) (H' : Hp), RelM G (guard P A B H) ms' F' B H' → Ext F F' → RelM G P (setAll s.M (refsOf vs) ms') F' A H' := fun ms' F' H' q e => by
    refine ⟨q.ex, fun a o ha => ?_, fun a o ha => ?_, by rw [setAll_len]; exact r.mem.len, r.mem.nd, fun j a m e1 e2 => ?_⟩
    · have n : a ∉ A := (r.mem.pf a o ha).2
      exact q.pr a o (by unfold guard; rw [if_neg (fun z => n z.1)]; exact ha)
    · have n : a ∉ A := (r.mem.pf a o ha).2
      exact ⟨(q.pf a o (by unfold guard; rw [if_neg (fun z => n z.1)]; exact ha)).1, n⟩
    · by_cases hj : j ∈ refsOf vs
      · obtain ⟨i, hi, ei⟩ := List.mem_iff_getElem.mp hj
        have ei' : (refsOf vs)[i]? = some j := by rw [List.getElem?_eq_getElem hi, ei]
        obtain ⟨a', h1, h2⟩ := hB i j ei'
        rw [e1] at h1
        cases h1
        have hl : ms'.length = B.length := q.len.symm
        have hi2 : i < ms'.length := by rw [hl]; exact (List.getElem?_eq_some_iff.mp h2).1
        have : (setAll s.M (refsOf vs) ms')[j]? = some ms'[i] := setAll_at nd (fun k hk => by
          obtain ⟨i2, hi2, ek⟩ := List.mem_iff_getElem.mp hk
          obtain ⟨_, _, z⟩ := getAll_at hg (show (refsOf vs)[i2]? = some k by rw [List.getElem?_eq_getElem hi2, ek])
          exact (List.getElem?_eq_some_iff.mp z).1) ei' (List.getElem?_eq_getElem hi2)
        rw [this] at e2
        cases e2
        exact q.cells i a _ h2 (List.getElem?_eq_getElem hi2)
      · rw [setAll_out hj] at e2
        obtain ⟨f1, c⟩ := r.mem.cells j a m e1 e2
        have hA : a ∈ A := List.mem_of_getElem? e1
        have hnB : a ∉ B := fun hb => by
          obtain ⟨i, hi, e⟩ := List.mem_iff_getElem.mp hb
          obtain ⟨j', h1, h2⟩ := hB' i a (by rw [List.getElem?_eq_getElem hi, e])
          have := nodup_at r.mem.nd e1 h2
          subst this
          exact hj (List.mem_of_getElem? h1)
        obtain ⟨o, ho, _⟩ := there a hA
        have g1 : guard P A B H a = some o := by unfold guard; rw [if_pos ⟨hA, hnB⟩]; exact ho
        refine ⟨(q.pf a o g1).1, ?_⟩
        rw [q.pr a o g1, ← ho]
        exact c.mono e
  have away : ∀ (F' : Hp) (a : Ad), guard P A B H a = none → a ∉ B → P a = none ∧ a ∉ A := fun F' a h1 h2 => by
    have n : a ∉ A := fun hA => by
      obtain ⟨o, ho, _⟩ := there a hA
      unfold guard at h1
      rw [if_pos ⟨hA, h2⟩, ho] at h1
      cases h1
    refine ⟨?_, n⟩
    unfold guard at h1
    rw [if_neg (fun z => n z.1)] at h1
    exact h1
  refine ⟨rfl, renum 0 vs, ms, F, B, guard P A B H, renum_rep 0 hx (fun i j e => by rw [Nat.zero_add]; exact hB i j e) rs, rel, ?_⟩
  split at h
  · rename_i v ms' hφ
    try rw [hφ]
    intro u F' H' e q rv
    have R1 : RelS G P eA ⟨s.ρ, setAll s.M (refsOf vs) ms'⟩ F' A σ H' := r.mono e (List.prefix_refl _) (back ms' F' H' q e)
    refine hq v u _ F' H' R1 e ?_ (h F' A H' e (List.prefix_refl _) R1)
    cases v with
    | d x => exact rv
    | new xs =>
      obtain ⟨a, ws, h1, h2, h3, h4, h5, h6⟩ := rv
      obtain ⟨k1, k2⟩ := away F' a h4 h5
      exact ⟨a, ws, h1, h2, h3, k1, k2, h6⟩
  · rename_i c fs ms' hφ
    try rw [hφ]
    intro C d F' H' e q ex
    exact h C d F' A H' e (List.prefix_refl _) (r.mono e (List.prefix_refl _) (back ms' F' H' q e)) ex
  · exact h.elim
end
end GF

set_option Elab.async false
set_option linter.all false
set_option maxRecDepth 100000
set_option autoImplicit false
set_option maxHeartbeats 1000000
namespace GF
open PySem PySem.Spec PyProof.Rows L2

/-! ### a term is the text: what is looked at -/
structure Cs where
  N : List Str
  sc : Scope
  calm : Bool
structure Fx where
  gname : Option Str
  ps : List Str
  quiet : Bool := false
  pats : List Nat := []
  own : List (Nat × String) := []
  stat : List (Nat × String) := []
structure Ti where
  tb : Tb
  fns : List Fx
  cnames : List Str
  clsn : List Str
  free : List Str
  gcd : Bool := false
  rais : List Nat := []

/-- the methods' patterns fit the functions -/
def mpB (ti : Ti) : Bool := ti.tb.mpats.all fun z => match ti.tb.cls[z.1]? with
  | none => false
  | some i => !i.exc && (!decide (Str.ofString z.2.1 ∈ i.flds.map Str.ofString) && (match ti.tb.pats[z.2.2]? with
    | none => false
    | some q => (match ti.fns[q.f]? with
      | none => false
      | some fx => fx.own.contains (z.1, z.2.1) && (fx.pats.contains z.2.2 && (decide (1 ≤ q.n) && decide ((permute q.perm (List.range (q.n + (q.ks.length + q.dfl.length)))).length = fx.ps.length))))))
def visB (sc : Scope) (x : Str) : Bool := match sc.names.lookup x with
  | some .local => true
  | some .cell => true
  | some .free => true
  | _ => false
def dbgB (x : Str) : Bool := !(x == ("__debug__" : Str)) && !(x == ("__classdict__" : Str))
def slotB (c : Cs) (i : Nat) (x : Str) : Bool := decide (c.N[i]? = some x) && (visB c.sc x && dbgB x)
def glB (c : Cs) (x : Str) : Bool := decide (c.sc.names.lookup x = some .globalImplicit) && dbgB x
def okTb (t : Tx) : Bool := decide (t.length ≤ 16777216) && t.all fun c => decide (c < 0x110000)
def cstB : D → Const → Bool
  | .int i, .int j => decide (i = j)
  | .bl a, .bool b => a == b
  | .str t, .str s => decide (toS t = s) && okTb t
  | .non, .none => true
  | _, _ => false
def bltNm : Blt → Str
  | .len => "len"
  | .int => "int"
  | .bool => "bool"
  | .abs => "abs"
  | .min2 => "min"
  | .max2 => "max"
  | .minl => "min"
  | .maxl => "max"
  | .sum => "sum"
  | .tuple => "tuple"
  | .str => "str"
  | .all => "all"
  | .any => "any"
  | .gcd => "gcd"
def tyNm : Ty → Str
  | .int => "int"
  | .bool => "bool"
  | .str => "str"
  | .list => "list"
  | .tuple => "tuple"
  | .cls _ => ""
/-- a class's name as the text has it -/
def tyB (ti : Ti) (c : Cs) (t : Ty) (e : Expr) : Bool := match e with
  | .Name x _ => glB c x && (match t with
    | .cls k => decide (ti.clsn[k]? = some x) && decide (k < ti.tb.cls.length)
    | t => decide (x = tyNm t) && ti.free.contains x)
  | _ => false
def bltFree (ti : Ti) (b : Blt) (x : Str) : Bool := match b with
  | .gcd => ti.gcd
  | _ => ti.free.contains x
/-- an expression whose truth is asked plainly -/
def plainT : Expr → Bool
  | .Name _ _ => true
  | .Call _ _ _ _ => true
  | .Attribute _ _ _ => true
  | .Subscript _ _ _ => true
  | _ => false
def baseB : Expr → Bool
  | .Call (.Name x _) [] [] _ => !decide (x = "super")
  | _ => true
def isLc : Expr → Bool
  | .ListComp _ _ _ _ => true
  | .SetComp _ _ _ _ => true
  | .DictComp _ _ _ _ _ => true
  | _ => false
mutual
def okE (ti : Ti) (c : Cs) : E → Expr → Bool
  | .var i, e => match e with
    | .Name x _ => slotB c i x
    | _ => false
  | .cst d, e => match e with
    | .Constant k _ _ => cstB d k
    | _ => false
  | .glo i, e => match e with
    | .Name x _ => glB c x && decide (ti.cnames[i]? = some x)
    | _ => false
  | .bin o a b, e => match e with
    | .BinOp x op y _ => decide (op = bopOf o) && (okE ti c a x && okE ti c b y)
    | _ => false
  | .neg a, e => match e with
    | .UnaryOp .USub x _ => okE ti c a x
    | _ => false
  | .cmp o a b, e => match e with
    | .Compare x [op] [y] _ => decide (op = copOf o) && (okE ti c a x && (okE ti c b y && !behindInMarks op y))
    | _ => false
  | .cmp2 o1 o2 a b d, e => match e with
    | .Compare x [op1, op2] [y, z] _ => decide (op1 = copOf o1) && (decide (op2 = copOf o2) && (okE ti c a x && (okE ti c b y && (okE ti c d z && !lastMarks [op1, op2] [y, z]))))
    | _ => false
  | .vand a b, e => match e with
    | .BoolOp .And (x :: y :: r) p => okE ti c a x && okE ti c b (.BoolOp .And (y :: r) p)
    | _ => false
  | .vor a b, e => match e with
    | .BoolOp .Or (x :: y :: r) p => okE ti c a x && okE ti c b (.BoolOp .Or (y :: r) p)
    | _ => false
  | .one a, e => match e with
    | .BoolOp _ [x] _ => okE ti c a x
    | _ => false
  | .vnot a, e => match e with
    | .UnaryOp .Not x _ => okE ti c a x
    | _ => false
  | .ife t a b, e => match e with
    | .IfExp z x y _ => okT' ti c t z && (okE ti c a x && okE ti c b y)
    | _ => false
  | .ix a i, e => match e with
    | .Subscript x y _ => okE ti c a x && okE ti c i y
    | _ => false
  | .sl a lo hi, e => match e with
    | .Subscript x (.Slice l h none _) _ => okE ti c a x && (okP ti c lo l && okP ti c hi h)
    | _ => false
  | .tup as, e => match e with
    | .Tuple es _ _ => okA ti c as es && decide (es.length ≤ 1000)
    | _ => false
  | .frz n, e => okN ti c n e
  | .call f as, e => match e with
    | .Call (.Name x _) (e1 :: es) [] _ => glB c x && (okA ti c as (e1 :: es) && (match ti.fns[f]? with
      | some fx => decide (fx.gname = some x) && (decide (lenA as = fx.ps.length) && (c.calm || fx.quiet))
      | none => false))
    | _ => false
  | .callK p as bs, e => match e with
    | .Call (.Name x _) es kws _ => c.calm && (glB c x && (okA ti c as es && (okK ti c bs kws && (match ti.tb.pats[p]? with
      | some q => decide (kws.map (·.arg) = q.ks.map fun z => some (Str.ofString z)) && (decide (lenA as = q.n) && (decide (lenA bs = q.ks.length) && match ti.fns[q.f]? with
        | some fx => decide (fx.gname = some x) && (fx.pats.contains p && decide ((permute q.perm (List.range (q.n + (q.ks.length + q.dfl.length)))).length = fx.ps.length))
        | none => false))
      | none => false))))
    | .Call (.Attribute (.Name x _) nm apos) es kws pos => c.calm && (glB c x && (okA ti c as es && (okK ti c bs kws && (((apos.endLine == pos.line) && decide (es.length + kws.length < 20)) && (match ti.tb.pats[p]? with
      | some q => decide (kws.map (·.arg) = q.ks.map fun z => some (Str.ofString z)) && (decide (lenA as = q.n) && (decide (lenA bs = q.ks.length) && match ti.fns[q.f]? with
        | some fx => (fx.stat.any fun z => decide (ti.clsn[z.1]? = some x) && decide (Str.ofString z.2 = nm)) && (fx.pats.contains p && decide ((permute q.perm (List.range (q.n + (q.ks.length + q.dfl.length)))).length = fx.ps.length))
        | none => false))
      | none => false)))))
    | _ => false
  | .blt b as, e => match e with
    | .Call (.Name x _) (e1 :: es) [] _ => glB c x && (okA ti c as (e1 :: es) && (decide (x = bltNm b) && ((!bltNeeds b || c.calm) && bltFree ti b x)))
    | _ => false
  | .bm m o as, e => match e with
    | .Call (.Attribute x nm apos) (e1 :: es) [] pos => decide (nm = bmNm m) && ((decide (m = .join) || decide (m = .rstrip1)) && okE ti c o x && (okA ti c as (e1 :: es) && (baseB x && (apos.endLine == pos.line && decide (es.length < 20)))))
    | _ => false
  | .mut m i as, e => match e with
    | .Call (.Attribute (.Name x _) nm apos) es [] pos => decide (nm = muNm m) && (slotB c i x && (okA ti c as es && (apos.endLine == pos.line && decide (es.length < 20))))
    | _ => false
  | .isi a t, e => match e with
    | .Call (.Name f _) [x, y] [] _ => decide (f = "isinstance") && (glB c f && (ti.free.contains f && (okE ti c a x && tyB ti c t y)))
    | _ => false
  | .efld a k f, e => match e with
    | .Attribute x nm _ => okE ti c a x && (baseB x && match ti.tb.cls[k]? with
      | some i => decide ((i.flds.map Str.ofString)[f]? = some nm) && i.exc
      | none => false)
    | _ => false
  | .rev a, e => match e with
    | .Subscript x (.Slice none none (some (.UnaryOp .USub (.Constant (.int 1) _ _) _)) _) _ => okE ti c a x
    | _ => false
  | .fld a x, e => match e with
    | .Attribute o nm _ => okE ti c a o && (baseB o && decide (nm = Str.ofString x))
    | _ => false
  | .meth a m ks as bs, e => match e with
    | .Call (.Attribute o nm apos) es kws pos => c.calm && (okE ti c a o && (baseB o && (decide (nm = Str.ofString m) && (okA ti c as es && (okK ti c bs kws && (decide (kws.map (·.arg) = ks.map fun z => some (Str.ofString z)) && ((apos.endLine == pos.line) && (decide (es.length + kws.length < 20) && decide (lenA bs = ks.length)))))))))
    | _ => false
  | .make n ks as bs, e => match e with
    | .Call (.Name x _) es kws _ => c.calm && (glB c x && (decide (ti.clsn[n]? = some x) && (okA ti c as es && (okK ti c bs kws && (decide (kws.map (·.arg) = ks.map fun z => some (Str.ofString z)) && decide (lenA bs = ks.length))))))
    | _ => false
  | .ob o a b, e => match e with
    | .BinOp x op y _ => c.calm && (decide (op = bopOf o) && (okE ti c a x && (okE ti c b y && !decide (bopM o = ""))))
    | _ => false
  | .oneg a, e => match e with
    | .UnaryOp .USub x _ => c.calm && okE ti c a x
    | _ => false
  | .oeq a b, e => match e with
    | .Compare x [.Eq] [y] _ => c.calm && (okE ti c a x && (okE ti c b y && !behindInMarks .Eq y))
    | _ => false
def okT' (ti : Ti) (c : Cs) : T → Expr → Bool
  | .val a, e => okE ti c a e && plainT e
  | .tru a, e => okE ti c a e && plainT e
  | .cmp o a b, e => match e with
    | .Compare x [op] [y] _ => decide (op = copOf o) && (okE ti c a x && (okE ti c b y && !behindInMarks op y))
    | _ => false
  | .cmp2 o1 o2 a b d, e => match e with
    | .Compare x [op1, op2] [y, z] _ => decide (op1 = copOf o1) && (decide (op2 = copOf o2) && (okE ti c a x && (okE ti c b y && (okE ti c d z && !lastMarks [op1, op2] [y, z]))))
    | _ => false
  | .tand a b, e => match e with
    | .BoolOp .And (x :: y :: r) p => okT' ti c a x && okT' ti c b (.BoolOp .And (y :: r) p)
    | _ => false
  | .tor a b, e => match e with
    | .BoolOp .Or (x :: y :: r) p => okT' ti c a x && okT' ti c b (.BoolOp .Or (y :: r) p)
    | _ => false
  | .one a, e => match e with
    | .BoolOp _ [x] _ => okT' ti c a x
    | _ => false
  | .tnot a, e => match e with
    | .UnaryOp .Not x _ => okT' ti c a x
    | _ => false
def okN (ti : Ti) (c : Cs) : N → Expr → Bool
  | .disp as, e => match e with
    | .List es _ => okA ti c as es && decide (es.length ≤ 1000)
    | _ => false
  | .cat a b, e => match e with
    | .BinOp x .Add y _ => okN ti c a x && okN ti c b y
    | _ => false
  | .catE a b, e => match e with
    | .BinOp x .Add y _ => okE ti c a x && okN ti c b y
    | _ => false
  | .catF a b, e => match e with
    | .BinOp x .Add y _ => okN ti c a x && okE ti c b y
    | _ => false
  | .rep a b, e => match e with
    | .BinOp x .Mult y _ => okN ti c a x && okE ti c b y
    | _ => false
  | .comp i it t a, e => match e with
    | .ListComp elt [⟨.Name x _, src, [g], 0⟩] sc _ => c.calm && (okI ti c it src && (okT' ti { c with sc := relS sc c.sc } t g && (okE ti { c with sc := relS sc c.sc } a elt && (blkC c.N c.sc sc [(x, i)] && decide (sc.names.lookup x = some .local)))))
    | _ => false
  | .comp0 i it a, e => match e with
    | .ListComp elt [⟨.Name x _, src, [], 0⟩] sc _ => c.calm && (okI ti c it src && (okE ti { c with sc := relS sc c.sc } a elt && (blkC c.N c.sc sc [(x, i)] && decide (sc.names.lookup x = some .local))))
    | _ => false
  | .compC i src a, e => match e with
    | .ListComp elt [⟨.Name x _, .Name y _, [], 0⟩] sc _ => c.calm && (slotB c src y && (okE ti { c with sc := relS sc c.sc } a elt && (blkC c.N c.sc sc [(x, i)] && decide (sc.names.lookup x = some .local))))
    | _ => false
  | .ofSeq a, e => match e with
    | .Call (.Name f _) [x] [] _ => decide (f = "list") && (glB c f && (ti.free.contains f && okE ti c a x))
    | _ => false
  | .cut a lo hi, e => match e with
    | .Subscript x (.Slice l h none _) _ => okE ti c a x && (okP ti c lo l && okP ti c hi h)
    | _ => false
  | .call f as, e => match e with
    | .Call (.Name x _) (e1 :: es) [] _ => glB c x && (okA ti c as (e1 :: es) && (match ti.fns[f]? with
      | some fx => decide (fx.gname = some x) && (decide (lenA as = fx.ps.length) && (c.calm || fx.quiet))
      | none => false))
    | _ => false
  | .rev a, e => match e with
    | .Subscript x (.Slice none none (some (.UnaryOp .USub (.Constant (.int 1) _ _) _)) _) _ => okE ti c a x
    | _ => false
  | .odd a, e => match e with
    | .Subscript x (.Slice (some (.Constant (.int 1) _ _)) none (some (.Constant (.int 2) _ _)) _) _ => okE ti c a x
    | _ => false
def okP (ti : Ti) (c : Cs) : P → Option Expr → Bool
  | .none, e => match e with
    | Option.none => true
    | _ => false
  | .some a, e => match e with
    | Option.some x => okE ti c a x
    | _ => false
def okI (ti : Ti) (c : Cs) : It → Expr → Bool
  | .seq a, e => okE ti c a e
  | .new n, e => okN ti c n e
  | .rng1 a, e => match e with
    | .Call (.Name f _) [x] [] _ => decide (f = "range") && (glB c f && (ti.free.contains f && okE ti c a x))
    | _ => false
  | .rng2 a b, e => match e with
    | .Call (.Name f _) [x, y] [] _ => decide (f = "range") && (glB c f && (ti.free.contains f && (okE ti c a x && okE ti c b y)))
    | _ => false
  | .rng3 a b d, e => match e with
    | .Call (.Name f _) [x, y, z] [] _ => decide (f = "range") && (glB c f && (ti.free.contains f && (okE ti c a x && (okE ti c b y && okE ti c d z))))
    | _ => false
  | .revS a, e => match e with
    | .Call (.Name f _) [x] [] _ => decide (f = "reversed") && (glB c f && (ti.free.contains f && okE ti c a x))
    | _ => false
  | .revL a, e => match e with
    | .Call (.Name f _) [x] [] _ => decide (f = "reversed") && (glB c f && (ti.free.contains f && okE ti c a x))
    | _ => false
def okA (ti : Ti) (c : Cs) : As → List Expr → Bool
  | .nil, es => match es with
    | [] => true
    | _ => false
  | .cons a as, es => match es with
    | x :: xs => okE ti c a x && okA ti c as xs
    | _ => false
def okK (ti : Ti) (c : Cs) : As → List Keyword → Bool
  | .nil, es => match es with
    | [] => true
    | _ => false
  | .cons a as, es => match es with
    | ⟨_, x, _⟩ :: xs => okE ti c a x && okK ti c as xs
    | _ => false
end

/-! ### no star, no slice -/
theorem ok_notStar {ti : Ti} {c : Cs} : ∀ {a : E} {e : Expr}, okE ti c a e = true → (∀ x p, e ≠ .Starred x p) ∧ (∀ l h s p, e ≠ .Slice l h s p) := by
  have keyN : ∀ {a : N} {e : Expr}, okN ti c a e = true → (∀ x p, e ≠ .Starred x p) ∧ (∀ l h s p, e ≠ .Slice l h s p) := by
    intro a e h
    refine ⟨fun x p z => ?_, fun l k s p z => ?_⟩ <;> subst z <;> cases a <;> simp [okN] at h
  intro a e h
  refine ⟨fun x p z => ?_, fun l k s p z => ?_⟩ <;> subst z <;> cases a <;> first | (simp [okE] at h; done) | skip
  · exact (keyN (show okN ti c _ _ = true by simpa [okE] using h)).1 x p rfl
  · exact (keyN (show okN ti c _ _ = true by simpa [okE] using h)).2 l k s p rfl
theorem star_of {e : Expr} (h : ∀ x p, e ≠ .Starred x p) (es : List Expr) (env : Env) : starEach (e :: es) env = (false, eval e env) :: starEach es env := by
  cases e <;> first | rfl | exact absurd rfl (h _ _)
theorem star_all {ti : Ti} {c : Cs} : ∀ {as : As} {es : List Expr} (pos : Pos) (env : Env), okA ti c as es = true → (backTo pos (starEach es env)).any (·.1) = false
  | .nil, es, pos, env, h => by
    cases es with
    | nil => rfl
    | cons _ _ => simp [okA] at h
  | .cons a as, es, pos, env, h => by
    cases es with
    | nil => simp [okA] at h
    | cons x xs =>
      rw [okA, Bool.and_eq_true] at h
      rw [star_of (ok_notStar h.1).1]
      have ih := star_all (as := as) pos env h.2
      unfold backTo at ih ⊢
      rw [List.map_cons, List.any_cons, ih]
      rfl
theorem plainIx_of {e : Expr} (h : ∀ l h s p, e ≠ .Slice l h s p) : PlainIx e := by
  intro o i
  cases e <;> first | rfl | exact absurd rfl (h _ _ _ _)
theorem base_of {e : Expr} (h : baseB e = true) (nm : Str) (env : Env) (w : Sem Value) : attributeBase e nm env w = w := by
  unfold attributeBase
  split
  · rename_i id p1 p2
    unfold baseB at h
    have h' : ¬ id = "super" := by simpa using h
    have : (id != "super") = true := by simpa using h'
    simp [this]
  · rfl
end GF

set_option Elab.async false
set_option linter.all false
set_option maxRecDepth 100000
set_option autoImplicit false
set_option maxHeartbeats 1000000
namespace GF
open PySem PySem.Spec PyProof.Rows L2

def locB (sc : Scope) (x : Str) : Bool := match sc.names.lookup x with
  | some .local => true
  | some .cell => true
  | _ => false
def slotL (c : Cs) (i : Nat) (x : Str) : Bool := decide (c.N[i]? = some x) && (locB c.sc x && dbgB x)
/-- a comprehension stored on one line, the name a local -/
def lcSwap (c : Cs) (x : Str) (px : Pos) (v : Expr) : Bool := match v with
  | .ListComp _ _ s _ => decide (c.sc.names.lookup x = some .cell) || (decide (c.sc.names.lookup x = some .local) && ((px.line == v.pos.line) && !(s.names.any fun (n, k) => n == x && (k == .local || k == .cell))))
  | _ => !isLc v
/-- a, b = x, y: the stores exchanged -/
def nameLoc (sc : Scope) (l : Nat) : Expr → Option Str
  | .Name x p => if sc.names.lookup x = some .local ∧ p.line = l then some x else none
  | _ => none
def isTupE : Expr → Bool
  | .Tuple _ _ _ => true
  | _ => false
def slotsL (c : Cs) : List Nat → List Expr → Bool
  | [], [] => true
  | i :: is, .Name x _ :: es => slotL c i x && slotsL c is es
  | _, _ => false
def plainTg : Expr → Bool
  | .Slice _ _ _ _ => false
  | _ => true
def augOk : Bop → Bool
  | .add => true
  | .sub => true
  | _ => false
mutual
def okS (ti : Ti) (c : Cs) : St → Stmt → Bool
  | .set i e, st => match st with
    | .Assign [.Name x px] v _ => slotL c i x && (okE ti c e v && lcSwap c x px v)
    | _ => false
  | .setN i n, st => match st with
    | .Assign [.Name x px] v _ => slotL c i x && (okN ti c n v && lcSwap c x px v)
    | _ => false
  | .setR i n, st => match st with
    | .Assign [.Name x px] v _ => slotL c i x && (okN ti c n v && lcSwap c x px v)
    | _ => false
  | .setsub i x e, st => match st with
    | .Assign [.Subscript (.Name y _) ix _] v _ => slotB c i y && (okE ti c x ix && (okE ti c e v && !isLc v))
    | _ => false
  | .setfld i x e, st => match st with
    | .Assign [.Attribute (.Name y _) f _] v _ => slotB c i y && (okE ti c e v && (decide (f = Str.ofString x) && !isLc v))
    | _ => false
  | .augsub i x o e, st => match st with
    | .AugAssign (.Subscript (.Name y _) ix _) op v _ => slotB c i y && (okE ti c x ix && (okE ti c e v && (decide (op = bopOf o) && augOk o)))
    | _ => false
  | .aug i o e, st => match st with
    | .AugAssign (.Name x _) op v _ => slotL c i x && (okE ti c e v && (decide (op = bopOf o) && augOk o))
    | _ => false
  | .unp is e, st => match st with
    | .Assign [.Tuple ts _ _] v _ => c.calm && (slotsL c is ts && (okE ti c e v && (!isTupE v && !isLc v)))
    | _ => false
  | .par2 i j a b, st => match st with
    | .Assign [.Tuple [.Name x px, .Name y py] _ _] (.Tuple [v, w] _ _) _ => c.calm && (slotL c i x && (slotL c j y && (decide (i ≠ j) && (decide (c.sc.names.lookup x = some .local) && (decide (c.sc.names.lookup y = some .local) && ((px.line == py.line) && (okE ti c a v && (okE ti c b w && (decide (x ≠ y) && (!(foldedForSure 8 v && foldedForSure 8 w) && !(constantsAlone 8 v && constantsAlone 8 w)))))))))))
    | _ => false
  | .par3 i j l a b d, st => match st with
    | .Assign [.Tuple [.Name x px, .Name y py, .Name z pz] _ _] (.Tuple [v, w, r] _ _) _ => c.calm && (slotL c i x && (slotL c j y && (slotL c l z && ((decide (i ≠ j) && (decide (i ≠ l) && decide (j ≠ l))) && ((decide (c.sc.names.lookup x = some .local) && (decide (c.sc.names.lookup y = some .local) && decide (c.sc.names.lookup z = some .local))) && (((px.line == py.line) && (px.line == pz.line)) && (okE ti c a v && (okE ti c b w && (okE ti c d r && ((decide (x ≠ y) && (decide (x ≠ z) && decide (y ≠ z))) && (!(foldedForSure 8 v && (foldedForSure 8 w && foldedForSure 8 r)) && !(constantsAlone 8 v && (constantsAlone 8 w && constantsAlone 8 r)))))))))))))
    | _ => false
  | .ex e, st => match st with
    | .Expr v _ => okE ti c e v && !isLc v
    | _ => false
  | .ret e, st => match st with
    | .Return (some v) _ => okE ti c e v
    | _ => false
  | .retN n, st => match st with
    | .Return (some v) _ => okN ti c n v
    | _ => false
  | .retC i, st => match st with
    | .Return (some (.Name x _)) _ => slotB c i x
    | _ => false
  | .ret0, st => match st with
    | .Return none _ => true
    | _ => false
  | .ifs t a b, st => match st with
    | .If v x y _ => okT' ti c t v && (okB ti c a x && okB ti c b y)
    | _ => false
  | .for1 i it fg b, st => match st with
    | .For (.Name x _) v body [] _ => c.calm && (slotL c i x && (okI ti c it v && okB ti c b body))
    | _ => false
  | .forD i as fg b, st => match st with
    | .For (.Name x _) v body [] _ => c.calm && (slotL c i x && (okB ti c b body && (match v with
      | .List es _ => okA ti c as es && decide (es.length ≤ 1000)
      | .Tuple es _ _ => okA ti c as es && decide (es.length ≤ 1000)
      | _ => false)))
    | _ => false
  | .forE i j e fg b, st => match st with
    | .For (.Tuple [.Name x _, .Name y _] _ _) (.Call (.Name f _) [v] [] _) body [] _ => c.calm && (decide (f = "enumerate") && (glB c f && (ti.free.contains f && (slotL c i x && (slotL c j y && (okE ti c e v && okB ti c b body))))))
    | _ => false
  | .forC i src n fg b, st => match st with
    | .For (.Name x _) (.Name y _) body [] _ => c.calm && (slotL c i x && (slotB c src y && okB ti c b body))
    | _ => false
  | .whl n t fg b, st => match st with
    | .While v body [] _ => okT' ti c t v && okB ti c b body
    | _ => false
  | .brk, st => match st with
    | .Break _ => true
    | _ => false
  | .cont, st => match st with
    | .Continue _ => true
    | _ => false
  | .pass, st => match st with
    | .Pass _ => true
    | _ => false
  | .rai k as, st => match st with
    | .Raise (some (.Call (.Name x _) es [] _)) none _ => c.calm && (glB c x && (okA ti c as es && (decide (ti.clsn[k]? = some x) && (decide (k < ti.tb.cls.length) && (ti.rais.contains k && match ti.tb.cls[k]? with
      | some i => i.exc && decide (i.flds.length = es.length)
      | none => false)))))
    | _ => false
  | .tryS b hs, st => match st with
    | .Try body hds [] [] _ => c.calm && (okB ti c b body && (okH ti c hs hds && !hds.isEmpty))
    | _ => false
def okB (ti : Ti) (c : Cs) : Bl → List Stmt → Bool
  | .nil, sts => match sts with
    | [] => true
    | _ => false
  | .cons s b, sts => match sts with
    | x :: xs => okS ti c s x && okB ti c b xs
    | _ => false
  | .gh g b, sts => okB ti c b sts
def okH (ti : Ti) (c : Cs) : Hs → List ExceptHandler → Bool
  | .nil, hds => match hds with
    | [] => true
    | _ => false
  | .cons k i b hs, hds => match hds with
    | .ExceptHandler (some (.Name x _)) nm (b0 :: body) _ :: r => glB c x && (decide (ti.clsn[k]? = some x) && (decide (k < ti.tb.cls.length) && (okB ti { c with calm := false } b (b0 :: body) && (okH ti c hs r && (match i, nm with
      | none, none => true
      | some i, some n => decide (c.N[i]? = some n) && decide (c.sc.names.lookup n = some .local)
      | _, _ => false)))))
    | _ => false
end
end GF

set_option Elab.async false
set_option linter.all false
set_option maxRecDepth 100000
set_option autoImplicit false
set_option maxHeartbeats 1000000
namespace GF
open PySem PySem.Spec PyProof.Rows L2

/-! ### the context -/
/-- a call with keywords or defaults binds so -/
def KB (G : Ge) (K : PySem.W.Frag) (fd : FuncData) (ps : List Str) (q : Pat) : Prop :=
  ∃ (dus : List Value) (dvs : List V), Vals dvs dus ∧ (∀ F, Reps G F q.dfl dvs) ∧ ∀ (s : Shared) (us ws : List Value), K.In s.heap → us.length = q.n → ws.length = q.ks.length → BindsTo s fd ⟨us, (q.ks.map Str.ofString).zip ws⟩ (ps.zip (permute q.perm (us ++ (ws ++ dus))))
/-- a staticmethod, read off its class -/
structure SMeth (K : PySem.W.Frag) (C : Ad) (m : Str) (f : Ad) : Prop where
  ex : ∃ (mc : Value) (p : Ad) (rest : List Value), PySem.W.typeIn K (.ref C) = some mc ∧ PySem.W.readsIn K C mc = true ∧ PySem.W.specialIn K (.ref C) "__getattribute__" = some (some (.builtin "type.__getattribute__")) ∧
    PySem.W.findCls K (.ref C) mc m = some (.get (.builtin "staticmethod.__get__") (.ref p) .none (.ref C)) ∧ PySem.W.recIn K p "staticmethod" = some (.ref f :: rest)
/-- a function, as it stands behind the top -/
def FnC (G : Ge) (Pg : Program) (w : World) (K : PySem.W.Frag) (mg : Str → Option Value) (base : Heap) (k : Nat) (φ : FM) (fx : Fx) : Prop :=
  ∃ (f : Ad) (fd : FuncData), PySem.W.keepIn K (.ref f) = true ∧ (∀ x, fx.gname = some x → mg x = some (.ref f)) ∧ Binds K fd fx.ps [] ∧
    FnOk Pg w K mg base (L2.CX Pg w) (2 * k) f fd fx.ps (spOf G φ fx.ps.length) ∧ (fx.quiet = true → FnQ Pg w K mg base (2 * k) f fd fx.ps (spOf G φ fx.ps.length)) ∧ (∀ (p : Nat) (q : Pat), p ∈ fx.pats → G.tb.pats[p]? = some q → KB G K fd fx.ps q) ∧
      (∀ (c : Nat) (m : String), (c, m) ∈ fx.own → Meth K (G.cad c) (Str.ofString m) f) ∧ ∀ (c : Nat) (m : String), (c, m) ∈ fx.stat → SMeth K (G.cad c) (Str.ofString m) f
structure XOk (ti : Ti) (G : Ge) (Φ : Nat → FM) (k : Nat) (eA : EA) (c : Cs) (X : Cx) : Prop where
  K : G.K = X.K
  tb : G.tb = ti.tb
  N : X.N = c.N
  nd : X.N.Nodup
  sc : X.env.scope = c.sc
  hu : X.A.units + 64 < cLine
  calm : c.calm = true → X.calm = true
  room : c.calm = true → Room (2 * k + 1) X.A
  roomH : L2H.RoomH (2 * k + 1) X.A
  free : ∀ x, x ∈ ti.free → X.mg x = none
  gcd : ti.gcd = true → X.mg "gcd" = some (.builtin "math.gcd")
  consts : ∀ (i : Nat) (x : Str), ti.cnames[i]? = some x → ∃ (d : D) (v : V) (u : Value), ti.tb.consts[i]? = some d ∧ X.mg x = some u ∧ RelV v u ∧ ∀ F, Rep G F d v
  fns : ∀ (f : Nat) (fx : Fx), ti.fns[f]? = some fx → FnC G X.prog X.w X.K X.mg X.base k (Φ f) fx
  cls : ClsOk G
  clsn : ∀ (i : Nat) (x : Str), ti.clsn[i]? = some x → X.mg x = some (.ref (G.cad i))
  eAc : c.calm = true → eA = none
  mp : mpB ti = true
  exn : ∀ a C d, eA = some (a, C, d) → ∃ oe, (a, oe) ∈ X.pn ∧ Zc (.ref C) d oe ∧ ∃ vs, oe.data = .fields vs

theorem _root_.L2.PE.wk {X : Cx} {e : Expr} {t t' : TE} (h : PE X e t) (hw : ∀ σ H Q, t' σ H Q → t σ H Q) : PE X e t' := ⟨fun pins s σ H Q I q => h.run pins s σ H Q I (hw _ _ _ q)⟩
theorem _root_.L2.PT.wk {X : Cx} {e : Expr} {t t' : TT} (h : PT X e t) (hw : ∀ σ H Q, t' σ H Q → t σ H Q) : PT X e t' := ⟨fun pins s σ H Q I q => h.run pins s σ H Q I (hw _ _ _ q)⟩
theorem _root_.L2.PA.wk {X : Cx} {e : List Expr} {t t' : TA} (h : PA X e t) (hw : ∀ σ H Q, t' σ H Q → t σ H Q) : PA X e t' := ⟨fun pos pins s σ H Q I q => h.run pos pins s σ H Q I (hw _ _ _ q)⟩
theorem _root_.L2.PI.wk {X : Cx} {tg e : Expr} {t t' : TI} (h : PI X tg e t) (hw : ∀ σ H Q, t' σ H Q → t σ H Q) : PI X tg e t' := ⟨fun pins s σ H Q I q => h.run pins s σ H Q I (hw _ _ _ q)⟩
theorem _root_.L2.PO.wk {X : Cx} {e : Option Expr} {t t' : TO} (h : PO X e t) (hw : ∀ σ H Q, t' σ H Q → t σ H Q) : PO X e t' := ⟨fun pins s σ H Q I q => h.run pins s σ H Q I (hw _ _ _ q)⟩
theorem _root_.L2.PS.wk {X : Cx} {e : Stmt} {t t' : TS} (h : PS X e t) (hw : ∀ D σ H, t' D σ H → t D σ H) : PS X e t' := ⟨fun pins s σ H D I q => h.run pins s σ H D I (hw _ _ _ q)⟩
theorem _root_.L2.PSs.wk {X : Cx} {e : List Stmt} {t t' : TS} (h : PSs X e t) (hw : ∀ D σ H, t' D σ H → t D σ H) : PSs X e t' := ⟨fun pins s σ H D I q => h.run pins s σ H D I (hw _ _ _ q)⟩

/-! ### what is walked -/
structure WalkOf (G : Ge) (F : Hp) (xs : List D) (J : L2.It) : Prop where
  go : ∀ (i : Nat) (H : Hp), Ext F H → i < xs.length → J.go i H
  stop : ∀ (i : Nat) (H : Hp), Ext F H → xs.length ≤ i → J.stop i H
  yld : ∀ (i : Nat) (H : Hp) (x : V) (H' : Hp) (d : D), Ext F H → xs[i]? = some d → J.yld i H x H' → (H' = H ∧ Rep G F d x) ∨ ∃ p vs ds, H p = none ∧ H' = upd H p (.tup vs) ∧ x = .ref p ∧ d = .tup ds ∧ Reps G F ds vs
def TIt (G : Ge) (P : Hp) (eA : EA) (W : WX) (m : S → R (List D)) : TI := fun σ H R => ∃ s F A, RelS G P eA s F A σ H ∧ PstE G P eA W F A σ (m s) fun xs s' F' A' H' => ∀ J F2, Ext F' F2 → RelS G P eA s' F2 A' σ H' → WalkOf G F2 xs J → R J H'
section
variable {X : Cx} {G : Ge} {P : Hp} {M : List D} {F : Hp} {A : List Ad} {eA : EA} {σ : St'} {H : Hp} {pins : List (Ad × Obj)} {s : Shared} {tg : Expr} {Rr : L2.It → Hp → Prop} {E : Value → Shared → Prop}
theorem it_list {a : Ad} {xs : List V} (I : Inv X pins σ H s) (hq : SqL X.K H a xs) (q : Rr (Itl X.K a) H) : wpAny (model X.prog X.w) X.A (pyIter (.ref a)) (PIE X pins σ tg Rr) E s := by
  obtain ⟨its, rv, p, _⟩ := I.list hq
  refine wpAny_pyIter_list p.isList ⟨_, [s.heap.objs.size], _, _, H, rfl, I.kept (t' := s.toks) fun b o e => Heap.get?_push_of_some _ e, turn_list a _, ⟨_, Heap.get?_push_size _ rfl, rfl, rfl⟩, fun b hb => ?_, q⟩
  obtain rfl : b = s.heap.objs.size := by simpa using hb
  exact I.fpOk (Nat.le_refl _) I.fresh
theorem it_tup {a : Ad} {xs : List V} (I : Inv X pins σ H s) (hq : SqT X.K H a xs) (q : Rr (Itt X.K a) H) : wpAny (model X.prog X.w) X.A (pyIter (.ref a)) (PIE X pins σ tg Rr) E s := by
  obtain ⟨its, rv, p, _⟩ := I.tuple hq
  refine wpAny_pyIter_tuple (show s.heap.IsTuple a its.toArray from p) ⟨_, [s.heap.objs.size], _, _, H, rfl, I.kept (t' := s.toks) fun b o e => Heap.get?_push_of_some _ e, turn_tuple a _, ⟨_, Heap.get?_push_size _ rfl, rfl, rfl⟩, fun b hb => ?_, q⟩
  obtain rfl : b = s.heap.objs.size := by simpa using hb
  exact I.fpOk (Nat.le_refl _) I.fresh
end
end GF

set_option Elab.async false
set_option linter.all false
set_option maxRecDepth 100000
set_option autoImplicit false
set_option maxHeartbeats 1000000
namespace GF
open PySem PySem.Spec PyProof.Rows L2

section
variable {α β : Type} {G : Ge} {P : Hp} {eA : EA} {W : WX} {F F' : Hp} {A A' : List Ad} {σ : St'} {H : Hp} {s : S} {Q : β → S → Hp → List Ad → Hp → Prop}
theorem PstE.split' {r : R α} {f : α → S → R β} (h : PstE G P eA W F A σ (r.bind f) Q) : PstE G P eA W F A σ r fun a s' F' A' _ => r = .ok a s' ∧ PstE G P eA W F' A' σ (f a s') Q := by
  cases r with
  | ok a s' => exact fun F1 A1 H1 e1 p1 _ => ⟨rfl, PstE.mono e1 p1 (show PstE G P eA W F A σ (f a s') Q from h)⟩
  | exc c fs s' => exact h
  | stuck => exact h
theorem TV.of {m : S → R Sl} {f : Sl → S → R β} (r : RelS G P eA s F A σ H) (h : PstE G P eA W F A σ ((m s).bind f) Q) {K : VK}
    (hK : ∀ v s' F' A' H' u, Ext F F' → A <+: A' → RelS G P eA s' F' A' σ H' → RepS G F' A' eA v u → PstE G P eA W F' A' σ (f v s') Q → K u H') : TV G P eA W m σ H K :=
  ⟨s, F, A, r, h.split.imp fun v s' F' A' H' e p r' q u ru => hK v s' F' A' H' u e p r' ru q⟩
theorem TBo.of {m : S → R Bool} {f : Bool → S → R β} (r : RelS G P eA s F A σ H) (h : PstE G P eA W F A σ ((m s).bind f) Q) {K : Bool → Hp → Prop}
    (hK : ∀ v s' F' A' H', Ext F F' → A <+: A' → RelS G P eA s' F' A' σ H' → PstE G P eA W F' A' σ (f v s') Q → K v H') : TBo G P eA W m σ H K :=
  ⟨s, F, A, r, h.split.imp fun v s' F' A' H' e p r' q => hK v s' F' A' H' e p r' q⟩
theorem TPo.of {m : S → R (Option Int)} {f : Option Int → S → R β} (r : RelS G P eA s F A σ H) (h : PstE G P eA W F A σ ((m s).bind f) Q) {K : Option Int → Hp → Prop}
    (hK : ∀ v s' F' A' H', Ext F F' → A <+: A' → RelS G P eA s' F' A' σ H' → PstE G P eA W F' A' σ (f v s') Q → K v H') : TPo G P eA W m σ H K :=
  ⟨s, F, A, r, h.split.imp fun v s' F' A' H' e p r' q => hK v s' F' A' H' e p r' q⟩
theorem TAr.of {m : S → R (List Sl)} {f : List Sl → S → R β} (r : RelS G P eA s F A σ H) (h : PstE G P eA W F A σ ((m s).bind f) Q) {K : List V → Hp → Prop}
    (hK : ∀ vs s' F' A' H' us, m s = .ok vs s' → Ext F F' → A <+: A' → RelS G P eA s' F' A' σ H' → RepSs G F' A' eA vs us → PstE G P eA W F' A' σ (f vs s') Q → K us H') : TAr G P eA W m σ H K :=
  ⟨s, F, A, r, h.split'.imp fun v s' F' A' H' e p r' q u ru => hK v s' F' A' H' u q.1 e p r' ru q.2⟩
/-- a new list, frozen at once -/
theorem TNe.frz {m : S → R (List D)} {f : List D → S → R β} (r : RelS G P eA s F A σ H) (h : PstE G P eA W F A σ ((m s).bind f) Q) {K : VK}
    (hK : ∀ ds s' F' A' H' a vs, Ext F F' → A <+: A' → RelS G P eA s' F' A' σ H' → F' a = some (.lst vs) → Reps G F' ds vs → PstE G P eA W F' A' σ (f ds s') Q → K (.ref a) H') : TNe G P eA W m σ H K :=
  ⟨s, F, A, r, h.split.imp fun ds s' F' A' H' e p r' q a vs h1 h2 h3 h4 h5 => by
    have e' : Ext F' (upd F' a (.lst vs)) := Ext.new h2
    exact hK ds s' (upd F' a (.lst vs)) A' H' a vs (e.trans e') p (r'.mono' e' (r'.mem.freeze h2 h3 h4 h1)) upd_same (h5.mono e') (PstE.mono e' (List.prefix_refl _) q)⟩
/-- a new list, loose -/
theorem TNe.of {m : S → R (List D)} {f : List D → S → R β} (r : RelS G P eA s F A σ H) (h : PstE G P eA W F A σ ((m s).bind f) Q) {K : VK}
    (hK : ∀ ds s' F' A' H' a vs, Ext F F' → A <+: A' → RelS G P eA s' F' A' σ H' → H' a = some (.lst vs) → F' a = none → P a = none → a ∉ A' → Reps G F' ds vs → PstE G P eA W F' A' σ (f ds s') Q → K (.ref a) H') : TNe G P eA W m σ H K :=
  ⟨s, F, A, r, h.split.imp fun ds s' F' A' H' e p r' q a vs h1 h2 h3 h4 h5 => hK ds s' F' A' H' a vs e p r' h1 h2 h3 h4 h5 q⟩
end

/-! ### names -/
section
variable {X : Cx} {ti : Ti} {G : Ge} {Φ : Nat → FM} {k : Nat} {eA : EA} {c : Cs} {P : Hp} {W : WX} {pos : Pos}
theorem dbg_of {x : Str} (h : dbgB x = true) : (x == ("__debug__" : Str)) = false ∧ (x == ("__classdict__" : Str)) = false := by
  unfold dbgB at h
  rw [Bool.and_eq_true, Bool.not_eq_true', Bool.not_eq_true'] at h
  exact h
theorem vis_of {sc : Scope} {x : Str} (h : visB sc x = true) : Vis sc x := by
  unfold visB at h
  unfold Vis
  split at h <;> first | exact .inl (by assumption) | exact .inr (.inl (by assumption)) | exact .inr (.inr (by assumption)) | cases h
theorem slot_of {i : Nat} {x : Str} (hX : XOk ti G Φ k eA c X) (h : slotB c i x = true) : X.N[i]? = some x ∧ Vis X.env.scope x ∧ (x == ("__debug__" : Str)) = false ∧ (x == ("__classdict__" : Str)) = false := by
  unfold slotB at h
  rw [Bool.and_eq_true, Bool.and_eq_true, decide_eq_true_eq] at h
  rw [hX.N, hX.sc]
  exact ⟨h.1, vis_of h.2.1, dbg_of h.2.2⟩
theorem gl_of {x : Str} (hX : XOk ti G Φ k eA c X) (h : glB c x = true) : Gl X x ∧ (x == ("__debug__" : Str)) = false := by
  unfold glB at h
  rw [Bool.and_eq_true, decide_eq_true_eq] at h
  refine ⟨?_, (dbg_of h.2).1⟩
  show X.env.scope.names.lookup x = _
  rw [hX.sc]
  exact h.1
theorem free_of {x : Str} (hX : XOk ti G Φ k eA c X) (h : ti.free.contains x = true) : X.mg x = none := hX.free x (by simpa using h)

theorem snd_var {i : Nat} {x : Str} (hX : XOk ti G Φ k eA c X) (h : slotB c i x = true) : PE X (.Name x pos) (TV G P eA W (evE G.tb Φ (.var i))) := by
  obtain ⟨h1, h2, h3, h4⟩ := slot_of hX h
  refine (pe_var h1 h2 h3 h4).wk fun σ H Q ⟨s, F, A, r, h⟩ => ?_
  rw [evE] at h
  obtain ⟨v, e, h⟩ := h.optR
  obtain ⟨u, hu, ru⟩ := r.get e
  exact ⟨u, hu, h.now r u ru⟩
theorem okTb_of {t : Tx} (h : okTb t = true) : okT t := by
  unfold okTb at h
  rw [Bool.and_eq_true, decide_eq_true_eq, List.all_eq_true] at h
  exact ⟨by rw [sizeLine_eq]; exact h.1, fun c hc => of_decide_eq_true (h.2 c hc)⟩
theorem snd_cst {d : D} {kc : Const} {j} (h : cstB d kc = true) : PE X (.Constant kc j pos) (TV G P eA W (evE G.tb Φ (.cst d))) := by
  have go : ∀ {v : V}, PE X (.Constant kc j pos) (tC v) → (∀ F, Rep G F d v) → PE X (.Constant kc j pos) (TV G P eA W (evE G.tb Φ (.cst d))) := fun {v} p q => p.wk fun σ H Q ⟨s, F, A, r, h⟩ => by
    rw [evE] at h
    exact h.now r v (q F)
  unfold cstB at h
  split at h
  · cases of_decide_eq_true h
    exact go pe_int fun _ => .int _
  · cases eq_of_beq h
    exact go pe_bl fun _ => .bl _
  · rw [Bool.and_eq_true, decide_eq_true_eq] at h
    cases h.1
    exact go pe_str fun _ => .str _ (okTb_of h.2)
  · exact go pe_non fun _ => .non
  · cases h
theorem snd_glo {i : Nat} {x : Str} (hX : XOk ti G Φ k eA c X) (hg : glB c x = true) (hc : ti.cnames[i]? = some x) : PE X (.Name x pos) (TV G P eA W (evE G.tb Φ (.glo i))) := by
  obtain ⟨g1, g2⟩ := gl_of hX hg
  obtain ⟨d, v, u, h1, h2, h3, h4⟩ := hX.consts i x hc
  refine (pe_glob g1 h2 h3 g2).wk fun σ H Q ⟨s, F, A, r, h⟩ => ?_
  rw [evE] at h
  obtain ⟨d', e, h⟩ := h.optR
  rw [hX.tb, h1] at e
  cases e
  exact h.now r v (h4 F)

/-! ### operators -/
def rBinG (G : Ge) (P : Hp) (eA : EA) (o : Bop) : R2 := fun u w H Q => ∃ (M : List D) (F : Hp) (A : List Ad) (x y z : D), RelM G P M F A H ∧ Rep G F x u ∧ Rep G F y w ∧ binD o x y = some z ∧ AnsD G P M F A z Q
theorem bin_op {o : Bop} (hK : G.K = X.K) : OpR X (binaryOp (bopOf o)) (rBinG G P eA o) := fun pins s σ H u w uv wv Q I ru rw' ⟨M, F, A, x, y, z, r, rx, ry, hz, q⟩ => bin_run hK hz rx ry ru rw' I r q
variable {a b d : E} {ea eb ed : Expr}
theorem snd_bin {o : Bop} (hX : XOk ti G Φ k eA c X) (ha : PE X ea (TV G P eA W (evE G.tb Φ a))) (hb : PE X eb (TV G P eA W (evE G.tb Φ b))) : PE X (.BinOp ea (bopOf o) eb pos) (TV G P eA W (evE G.tb Φ (.bin o a b))) := by
  refine (pe_op (bin_op (P := P) (eA := eA) hX.K) ha hb).wk fun σ H Q ⟨s, F, A, r, h⟩ => ?_
  rw [evE] at h
  refine TV.of r h fun x s1 F1 A1 H1 u e1 p1 r1 ru q1 => TV.of r1 q1 fun y s2 F2 A2 H2 w e2 p2 r2 rw' q2 => ?_
  have ru' := ru.mono e2 p2
  cases x with
  | d x =>
    cases y with
    | d y =>
      obtain ⟨z, hz, q⟩ := q2.optR
      exact ⟨s2.M, F2, A2, x, y, z, r2.mem, ru', rw', hz, q.ansD r2⟩
    | ref _ => exact q2.elim
    | exn _ _ => exact q2.elim
  | ref _ => exact q2.elim
  | exn _ _ => exact q2.elim
theorem intSl_eq {x : Sl} {i : Int} (h : intSl x = some i) : x = .d (.int i) := by
  unfold intSl at h
  split at h <;> cases h
  rfl
theorem blSl_eq {x : Sl} {i : Bool} (h : blSl x = some i) : x = .d (.bl i) := by
  unfold blSl at h
  split at h <;> cases h
  rfl
theorem rep_int {F : Hp} {A : List Ad} {x : Sl} {i : Int} {u : V} (h : intSl x = some i) (r : RepS G F A eA x u) : u = .int i := by
  cases intSl_eq h
  exact Rep.int_ r
theorem rep_bl {F : Hp} {A : List Ad} {x : Sl} {i : Bool} {u : V} (h : blSl x = some i) (r : RepS G F A eA x u) : u = .bl i := by
  cases blSl_eq h
  exact Rep.bl_ r
theorem snd_neg (ha : PE X ea (TV G P eA W (evE G.tb Φ a))) : PE X (.UnaryOp .USub ea pos) (TV G P eA W (evE G.tb Φ (.neg a))) := by
  refine (pe_un un_neg ha).wk fun σ H Q ⟨s, F, A, r, h⟩ => ?_
  rw [evE] at h
  refine TV.of r h fun x s1 F1 A1 H1 u e1 p1 r1 ru q1 => ?_
  obtain ⟨i, hi, q⟩ := q1.optR
  exact ⟨i, rep_int hi ru, q.now r1 _ (.int _)⟩
def rCmpG (G : Ge) (o : Cop) : R2 := fun u w H Q => ∃ (F : Hp) (x y : D) (b : Bool), Ext F H ∧ Rep G F x u ∧ Rep G F y w ∧ cmpS o (.d x) (.d y) = some b ∧ Q (.bl b) H
theorem cmp_op {o : Cop} (hX : XOk ti G Φ k eA c X) : OpR X (compareOp (copOf o)) (rCmpG G o) := fun pins s σ H u w uv wv Q I ru rw' ⟨F, x, y, b, e, rx, ry, hz, q⟩ => cmp_run hX.K hX.hu hz rx ry ru rw' I e q
theorem cmpS_d {o : Cop} {x y : Sl} {b : Bool} (h : cmpS o x y = some b) : ∃ x' y', x = .d x' ∧ y = .d y' := by
  unfold cmpS at h
  split at h <;> first | cases h; done | exact ⟨_, _, rfl, rfl⟩
theorem snd_cmp {o : Cop} (hX : XOk ti G Φ k eA c X) (ha : PE X ea (TV G P eA W (evE G.tb Φ a))) (hb : PE X eb (TV G P eA W (evE G.tb Φ b))) (hm : behindInMarks (copOf o) eb = false) : PE X (.Compare ea [copOf o] [eb] pos) (TV G P eA W (evE G.tb Φ (.cmp o a b))) := by
  refine (pe_cmpR (cmp_op hX) ha hb hm).wk fun σ H Q ⟨s, F, A, r, h⟩ => ?_
  rw [evE] at h
  refine TV.of r h fun x s1 F1 A1 H1 u e1 p1 r1 ru q1 => TV.of r1 q1 fun y s2 F2 A2 H2 w e2 p2 r2 rw' q2 => ?_
  obtain ⟨z, hz, q⟩ := q2.optR
  obtain ⟨x', y', rfl, rfl⟩ := cmpS_d hz
  exact ⟨F2, x', y', z, r2.mem.ex, ru.mono e2 p2, rw', hz, q.now r2 _ (.bl _)⟩
theorem sndT_cmp {o : Cop} (hX : XOk ti G Φ k eA c X) (ha : PE X ea (TV G P eA W (evE G.tb Φ a))) (hb : PE X eb (TV G P eA W (evE G.tb Φ b))) (hm : behindInMarks (copOf o) eb = false) : PT X (.Compare ea [copOf o] [eb] pos) (TBo G P eA W (evT G.tb Φ (.cmp o a b))) := by
  refine (pt_cmpR (cmp_op hX) ha hb hm).wk fun σ H Q ⟨s, F, A, r, h⟩ => ?_
  rw [evT] at h
  refine TV.of r h fun x s1 F1 A1 H1 u e1 p1 r1 ru q1 => TV.of r1 q1 fun y s2 F2 A2 H2 w e2 p2 r2 rw' q2 => ?_
  obtain ⟨z, hz, q⟩ := q2.optR
  obtain ⟨x', y', rfl, rfl⟩ := cmpS_d hz
  exact ⟨F2, x', y', z, r2.mem.ex, ru.mono e2 p2, rw', hz, z, rfl, q.now r2⟩
theorem snd_cmp2 {o o2 : Cop} (hX : XOk ti G Φ k eA c X) (ha : PE X ea (TV G P eA W (evE G.tb Φ a))) (hb : PE X eb (TV G P eA W (evE G.tb Φ b))) (hd : PE X ed (TV G P eA W (evE G.tb Φ d))) (hm : lastMarks [copOf o, copOf o2] [eb, ed] = false) :
    PE X (.Compare ea [copOf o, copOf o2] [eb, ed] pos) (TV G P eA W (evE G.tb Φ (.cmp2 o o2 a b d))) := by
  refine (pe_chain (cmp_op hX) (cmp_op hX) ha hb hd hm).wk fun σ H Q ⟨s, F, A, r, h⟩ => ?_
  rw [evE] at h
  refine TV.of r h fun x s1 F1 A1 H1 u e1 p1 r1 ru q1 => TV.of r1 q1 fun y s2 F2 A2 H2 w e2 p2 r2 rw' q2 => ?_
  split at q2
  · rename_i hz
    obtain ⟨x', y', rfl, rfl⟩ := cmpS_d hz
    refine ⟨F2, x', y', true, r2.mem.ex, ru.mono e2 p2, rw', hz, true, rfl, ?_⟩
    rw [if_pos rfl]
    refine TV.of r2 q2 fun t s3 F3 A3 H3 u3 e3 p3 r3 ru3 q3 => ?_
    obtain ⟨z, hz, q⟩ := q3.optR
    obtain ⟨_, y'', e4, rfl⟩ := cmpS_d hz
    cases e4
    exact ⟨F3, y', y'', z, r3.mem.ex, rw'.mono e3 p3, ru3, hz, q.now r3 _ (.bl _)⟩
  · rename_i hz
    obtain ⟨x', y', rfl, rfl⟩ := cmpS_d hz
    refine ⟨F2, x', y', false, r2.mem.ex, ru.mono e2 p2, rw', hz, false, rfl, ?_⟩
    rw [if_neg Bool.false_ne_true]
    exact q2.now r2 _ (.bl _)
  · exact q2.elim
theorem sndT_cmp2 {o o2 : Cop} (hX : XOk ti G Φ k eA c X) (ha : PE X ea (TV G P eA W (evE G.tb Φ a))) (hb : PE X eb (TV G P eA W (evE G.tb Φ b))) (hd : PE X ed (TV G P eA W (evE G.tb Φ d))) (hm : lastMarks [copOf o, copOf o2] [eb, ed] = false) :
    PT X (.Compare ea [copOf o, copOf o2] [eb, ed] pos) (TBo G P eA W (evT G.tb Φ (.cmp2 o o2 a b d))) := by
  refine (pt_chain (cmp_op hX) (cmp_op hX) ha hb hd hm).wk fun σ H Q ⟨s, F, A, r, h⟩ => ?_
  rw [evT] at h
  refine TV.of r h fun x s1 F1 A1 H1 u e1 p1 r1 ru q1 => TV.of r1 q1 fun y s2 F2 A2 H2 w e2 p2 r2 rw' q2 => ?_
  split at q2
  · rename_i hz
    obtain ⟨x', y', rfl, rfl⟩ := cmpS_d hz
    refine ⟨F2, x', y', true, r2.mem.ex, ru.mono e2 p2, rw', hz, true, rfl, ?_⟩
    rw [if_pos rfl]
    refine TV.of r2 q2 fun t s3 F3 A3 H3 u3 e3 p3 r3 ru3 q3 => ?_
    obtain ⟨z, hz, q⟩ := q3.optR
    obtain ⟨_, y'', e4, rfl⟩ := cmpS_d hz
    cases e4
    exact ⟨F3, y', y'', z, r3.mem.ex, rw'.mono e3 p3, ru3, hz, z, rfl, q.now r3⟩
  · rename_i hz
    obtain ⟨x', y', rfl, rfl⟩ := cmpS_d hz
    refine ⟨F2, x', y', false, r2.mem.ex, ru.mono e2 p2, rw', hz, false, rfl, ?_⟩
    rw [if_neg Bool.false_ne_true]
    exact ⟨false, rfl, q2.now r2⟩
  · exact q2.elim
variable {rest : List Expr}
theorem snd_and (ha : PE X ea (TV G P eA W (evE G.tb Φ a))) (hb : PE X (.BoolOp .And (eb :: rest) pos) (TV G P eA W (evE G.tb Φ b))) : PE X (.BoolOp .And (ea :: eb :: rest) pos) (TV G P eA W (evE G.tb Φ (.vand a b))) := by
  refine (pe_and ha hb).wk fun σ H Q ⟨s, F, A, r, h⟩ => ?_
  rw [evE] at h
  refine TV.of r h fun x s1 F1 A1 H1 u e1 p1 r1 ru q1 => ?_
  split at q1
  · exact ⟨true, rep_bl (by assumption) ru, by rw [if_pos rfl]; exact ⟨s1, F1, A1, r1, q1⟩⟩
  · exact ⟨false, rep_bl (by assumption) ru, by rw [if_neg Bool.false_ne_true]; exact q1.now r1 _ (.bl _)⟩
  · exact q1.elim
theorem snd_or (ha : PE X ea (TV G P eA W (evE G.tb Φ a))) (hb : PE X (.BoolOp .Or (eb :: rest) pos) (TV G P eA W (evE G.tb Φ b))) : PE X (.BoolOp .Or (ea :: eb :: rest) pos) (TV G P eA W (evE G.tb Φ (.vor a b))) := by
  refine (pe_or ha hb).wk fun σ H Q ⟨s, F, A, r, h⟩ => ?_
  rw [evE] at h
  refine TV.of r h fun x s1 F1 A1 H1 u e1 p1 r1 ru q1 => ?_
  split at q1
  · exact ⟨true, rep_bl (by assumption) ru, by rw [if_pos rfl]; exact q1.now r1 _ (.bl _)⟩
  · exact ⟨false, rep_bl (by assumption) ru, by rw [if_neg Bool.false_ne_true]; exact ⟨s1, F1, A1, r1, q1⟩⟩
  · exact q1.elim
theorem snd_not (ha : PE X ea (TV G P eA W (evE G.tb Φ a))) : PE X (.UnaryOp .Not ea pos) (TV G P eA W (evE G.tb Φ (.vnot a))) := by
  refine (pe_not ha).wk fun σ H Q ⟨s, F, A, r, h⟩ => ?_
  rw [evE] at h
  refine TV.of r h fun x s1 F1 A1 H1 u e1 p1 r1 ru q1 => ?_
  obtain ⟨b, hb, q⟩ := q1.optR
  exact ⟨b, rep_bl hb ru, q.now r1 _ (.bl _)⟩
theorem snd_one {op} (ha : PE X ea (TV G P eA W (evE G.tb Φ a))) : PE X (.BoolOp op [ea] pos) (TV G P eA W (evE G.tb Φ (.one a))) := by
  refine (pe_one ha).wk fun σ H Q ⟨s, F, A, r, h⟩ => ?_
  rw [evE] at h
  exact ⟨s, F, A, r, h⟩
variable {t t2 : T} {et et2 : Expr}
theorem snd_ife (ht : PT X et (TBo G P eA W (evT G.tb Φ t))) (ha : PE X ea (TV G P eA W (evE G.tb Φ a))) (hb : PE X eb (TV G P eA W (evE G.tb Φ b))) : PE X (.IfExp et ea eb pos) (TV G P eA W (evE G.tb Φ (.ife t a b))) := by
  refine (pe_ifExp ht ha hb).wk fun σ H Q ⟨s, F, A, r, h⟩ => ?_
  rw [evE] at h
  refine TBo.of r h fun x s1 F1 A1 H1 e1 p1 r1 q1 => ?_
  cases x with
  | true => exact ⟨s1, F1, A1, r1, q1⟩
  | false => exact ⟨s1, F1, A1, r1, q1⟩
theorem isTrue_whole {op : BoolOp} {es : List Expr} {env : Env} (w w2 : Sem Value) : PySem.isTrue (.BoolOp op es pos) env w = PySem.isTrue (.BoolOp op es pos) env w2 := by simp only [PySem.isTrue]
theorem pw_of {op : BoolOp} {es : List Expr} {tt : TT} (h : PT X (.BoolOp op es pos) tt) : PW X (.BoolOp op es pos) tt := ⟨fun w pins s σ H Q I q => by rw [isTrue_whole w (eval (.BoolOp op es pos) X.env)]; exact h.run pins s σ H Q I q⟩
theorem sndT_and (ha : PT X ea (TBo G P eA W (evT G.tb Φ t))) (hb : PT X (.BoolOp .And (eb :: rest) pos) (TBo G P eA W (evT G.tb Φ t2))) : PT X (.BoolOp .And (ea :: eb :: rest) pos) (TBo G P eA W (evT G.tb Φ (.tand t t2))) := by
  refine (pw_and ha (pw_of hb)).pt.wk fun σ H Q ⟨s, F, A, r, h⟩ => ?_
  rw [evT] at h
  refine TBo.of r h fun x s1 F1 A1 H1 e1 p1 r1 q1 => ?_
  cases x with
  | true => rw [if_pos rfl]; exact ⟨s1, F1, A1, r1, q1⟩
  | false => rw [if_neg Bool.false_ne_true]; exact q1.now r1
theorem sndT_or (ha : PT X ea (TBo G P eA W (evT G.tb Φ t))) (hb : PT X (.BoolOp .Or (eb :: rest) pos) (TBo G P eA W (evT G.tb Φ t2))) : PT X (.BoolOp .Or (ea :: eb :: rest) pos) (TBo G P eA W (evT G.tb Φ (.tor t t2))) := by
  refine (pw_or ha (pw_of hb)).pt.wk fun σ H Q ⟨s, F, A, r, h⟩ => ?_
  rw [evT] at h
  refine TBo.of r h fun x s1 F1 A1 H1 e1 p1 r1 q1 => ?_
  cases x with
  | true => rw [if_pos rfl]; exact q1.now r1
  | false => rw [if_neg Bool.false_ne_true]; exact ⟨s1, F1, A1, r1, q1⟩
theorem sndT_not (ha : PT X ea (TBo G P eA W (evT G.tb Φ t))) : PT X (.UnaryOp .Not ea pos) (TBo G P eA W (evT G.tb Φ (.tnot t))) := by
  refine (pt_not ha).wk fun σ H Q ⟨s, F, A, r, h⟩ => ?_
  rw [evT] at h
  exact TBo.of r h fun x s1 F1 A1 H1 e1 p1 r1 q1 => q1.now r1
theorem sndT_one {op} (ha : PT X ea (TBo G P eA W (evT G.tb Φ t))) : PT X (.BoolOp op [ea] pos) (TBo G P eA W (evT G.tb Φ (.one t))) := by
  have go : PT X (.BoolOp op [ea] pos) (TBo G P eA W (evT G.tb Φ t)) := by cases op; exact (pw_and1 ha).pt; exact (pw_or1 ha).pt
  refine go.wk fun σ H Q ⟨s, F, A, r, h⟩ => ?_
  rw [evT] at h
  exact ⟨s, F, A, r, h⟩
theorem plainT_of {e : Expr} (h : plainT e = true) : ∀ (env : Env) (whole : Sem Value), PySem.isTrue e env whole = (do let v ← whole; standAt e.pos; holding [v] (truthy v)) := by
  intro env w
  cases e <;> first | (cases h; done) | (simp only [PySem.isTrue]; done)
theorem sndT_val (he : plainT ea = true) (ha : PE X ea (TV G P eA W (evE G.tb Φ a))) : PT X ea (TBo G P eA W (evT G.tb Φ (.val a))) := by
  refine (pt_val ha (plainT_of he _)).wk fun σ H Q ⟨s, F, A, r, h⟩ => ?_
  rw [evT] at h
  refine TV.of r h fun x s1 F1 A1 H1 u e1 p1 r1 ru q1 => ?_
  obtain ⟨b, hb, q⟩ := q1.optR
  exact ⟨b, rep_bl hb ru, q.now r1⟩
theorem sndT_tru (hX : XOk ti G Φ k eA c X) (he : plainT ea = true) (ha : PE X ea (TV G P eA W (evE G.tb Φ a))) : PT X ea (TBo G P eA W (evT G.tb Φ (.tru a))) := by
  refine (pt_truth ha (plainT_of he _)).wk fun σ H Q ⟨s, F, A, r, h⟩ => ?_
  rw [evT] at h
  refine TV.of r h fun x s1 F1 A1 H1 u e1 p1 r1 ru q1 => ?_
  obtain ⟨b, hb, q⟩ := q1.optR
  exact ⟨b, tru_run hX.K hb ru r1.mem, q.now r1⟩

/-! ### places -/
theorem snd_ix (hX : XOk ti G Φ k eA c X) (ha : PE X ea (TV G P eA W (evE G.tb Φ a))) (hb : PE X eb (TV G P eA W (evE G.tb Φ b))) (hp : PlainIx eb) : PE X (.Subscript ea eb pos) (TV G P eA W (evE G.tb Φ (.ix a b))) := by
  refine (pe_ix (ix_run (P := P) (eA := eA) hX.K) ha hb hp).wk fun σ H Q ⟨s, F, A, r, h⟩ => ?_
  rw [evE] at h
  refine TV.of r h fun x s1 F1 A1 H1 u e1 p1 r1 ru q1 => TV.of r1 q1 fun y s2 F2 A2 H2 w e2 p2 r2 rw' q2 => ?_
  split at q2
  · rename_i i hi
    obtain ⟨z, hz, q⟩ := q2.optR
    exact ⟨s2.M, F2, A2, x, i, z, ru.mono e2 p2, rep_int hi rw', r2.mem, hz, q.ansD r2⟩
  · exact q2.elim
variable {lo hi : GF.P} {el eh : Option Expr} {p2 : Pos}
theorem snd_sl (hX : XOk ti G Φ k eA c X) (ha : PE X ea (TV G P eA W (evE G.tb Φ a))) (hl : PO X el (TPo G P eA W (evP G.tb Φ lo))) (hh : PO X eh (TPo G P eA W (evP G.tb Φ hi))) : PE X (.Subscript ea (.Slice el eh none p2) pos) (TV G P eA W (evE G.tb Φ (.sl a lo hi))) := by
  refine (pe_slice (sl_runE (P := P) (eA := eA) hX.K) ha hl hh).wk fun σ H Q ⟨s, F, A, r, h⟩ => ?_
  rw [evE] at h
  refine TV.of r h fun x s1 F1 A1 H1 u e1 p1 r1 ru q1 => TPo.of r1 q1 fun l s2 F2 A2 H2 e2 p2 r2 q2 => TPo.of r2 q2 fun l2 s3 F3 A3 H3 e3 p3 r3 q3 => ?_
  have ru' := (ru.mono e2 p2).mono e3 p3
  split at q3
  · exact ⟨s3.M, F3, A3, r3.mem, .inl ⟨_, ru', q3.ansD r3⟩⟩
  · exact ⟨s3.M, F3, A3, r3.mem, .inr ⟨_, ru', q3.ansD r3⟩⟩
  · exact q3.elim
theorem sndN_cut (hX : XOk ti G Φ k eA c X) (ha : PE X ea (TV G P eA W (evE G.tb Φ a))) (hl : PO X el (TPo G P eA W (evP G.tb Φ lo))) (hh : PO X eh (TPo G P eA W (evP G.tb Φ hi))) : PE X (.Subscript ea (.Slice el eh none p2) pos) (TNe G P eA W (evN G.tb Φ (.cut a lo hi))) := by
  refine (pe_slice (sl_runN (P := P) (eA := eA) hX.K) ha hl hh).wk fun σ H Q ⟨s, F, A, r, h⟩ => ?_
  rw [evN] at h
  refine TV.of r h fun x s1 F1 A1 H1 u e1 p1 r1 ru q1 => TPo.of r1 q1 fun l s2 F2 A2 H2 e2 p2 r2 q2 => TPo.of r2 q2 fun l2 s3 F3 A3 H3 e3 p3 r3 q3 => ?_
  have ru' := (ru.mono e2 p2).mono e3 p3
  split at q3
  · exact ⟨s3.M, F3, A3, _, _, r3.mem, ru', rfl, q3.ansN r3⟩
  · exact ⟨s3.M, F3, A3, _, _, r3.mem, ru', rfl, q3.ansN r3⟩
  · split at q3
    · rename_i hm
      refine ⟨s3.M, F3, A3, _, _, r3.mem, ru', ?_, q3.ansN r3⟩
      simp only [lstS, hm]
    · exact q3.elim
  · exact q3.elim
theorem sndP_none : PO X none (TPo G P eA W (evP G.tb Φ .none)) := by
  refine po_none.wk fun σ H Q ⟨s, F, A, r, h⟩ => ?_
  rw [evP] at h
  exact h.now r
theorem sndP_some (ha : PE X ea (TV G P eA W (evE G.tb Φ a))) : PO X (some ea) (TPo G P eA W (evP G.tb Φ (.some a))) := by
  refine (po_some ha).wk fun σ H Q ⟨s, F, A, r, h⟩ => ?_
  rw [evP] at h
  refine TV.of r h fun x s1 F1 A1 H1 u e1 p1 r1 ru q1 => ?_
  obtain ⟨i, hi, q⟩ := q1.optR
  exact ⟨i, rep_int hi ru, q.now r1⟩

/-! ### displays, lists -/
variable {as : As} {es : List Expr} {n n2 : N} {en en2 : Expr}
theorem sndA_nil : PA X [] (TAr G P eA W (evA G.tb Φ .nil)) := by
  refine pa_nil.wk fun σ H Q ⟨s, F, A, r, h⟩ => ?_
  rw [evA] at h
  exact h.now r _ .nil
theorem sndA_cons (hs : ∀ x p, ea ≠ .Starred x p) (ha : PE X ea (TV G P eA W (evE G.tb Φ a))) (hr : PA X es (TAr G P eA W (evA G.tb Φ as))) : PA X (ea :: es) (TAr G P eA W (evA G.tb Φ (.cons a as))) := by
  refine (pa_cons ha hr (star_of hs _ _)).wk fun σ H Q ⟨s, F, A, r, h⟩ => ?_
  rw [evA] at h
  exact TV.of r h fun x s1 F1 A1 H1 u e1 p1 r1 ru q1 => TAr.of r1 q1 fun vs s2 F2 A2 H2 us _ e2 p2 r2 rus q2 => q2.now r2 _ (.cons (ru.mono e2 p2) rus)
theorem evA_len {tb : Tb} : ∀ {as : As} {s s' : S} {vs : List Sl}, evA tb Φ as s = .ok vs s' → vs.length = lenA as
  | .nil, s, s', vs, h => by rw [evA] at h; cases h; rfl
  | .cons a as, s, s', vs, h => by
    rw [evA] at h
    cases h1 : evE tb Φ a s with
    | ok x s1 =>
      rw [h1, R.bind_ok] at h
      cases h2 : evA tb Φ as s1 with
      | ok xs s2 =>
        rw [h2, R.bind_ok] at h
        cases h
        rw [List.length_cons, evA_len h2]
        rfl
      | exc _ _ _ => rw [h2] at h; cases h
      | stuck => rw [h2] at h; cases h
    | exc _ _ _ => rw [h1] at h; cases h
    | stuck => rw [h1] at h; cases h
theorem okA_len {ti : Ti} {c : Cs} : ∀ {as : As} {es : List Expr}, okA ti c as es = true → es.length = lenA as
  | .nil, [], _ => rfl
  | .nil, _ :: _, h => by simp [okA] at h
  | .cons _ _, [], h => by simp [okA] at h
  | .cons a as, x :: xs, h => by
    rw [okA, Bool.and_eq_true] at h
    rw [List.length_cons, okA_len h.2]
    rfl
theorem snd_tup {kk} (hl : lenA as ≤ 1000) (ha : PA X es (TAr G P eA W (evA G.tb Φ as))) : PE X (.Tuple es kk pos) (TV G P eA W (evE G.tb Φ (.tup as))) := by
  refine (pe_tup ha).wk fun σ H Q ⟨s, F, A, r, h⟩ => ?_
  rw [evE] at h
  refine TAr.of r h fun vs s2 F2 A2 H2 us hv e2 p2 r2 rus q2 => ?_
  obtain ⟨ds, hd, q⟩ := q2.optR
  refine ⟨?_, fun p hp => ?_⟩
  · rw [← Paired.length rus, evA_len hv, sizeLine_eq]; omega
  · exact (q.ansD r2).tup r2.mem (reps_of hd rus) hp
theorem sndN_disp (hl : lenA as ≤ 1000) (ha : PA X es (TAr G P eA W (evA G.tb Φ as))) : PE X (.List es pos) (TNe G P eA W (evN G.tb Φ (.disp as))) := by
  refine (pe_lst ha).wk fun σ H Q ⟨s, F, A, r, h⟩ => ?_
  rw [evN] at h
  refine TAr.of r h fun vs s2 F2 A2 H2 us hv e2 p2 r2 rus q2 => ?_
  obtain ⟨ds, hd, q⟩ := q2.optR
  refine ⟨?_, fun p hp => ?_⟩
  · rw [← Paired.length rus, evA_len hv, sizeLine_eq]; omega
  · exact (q.ansN r2).new r2.mem (reps_of hd rus) hp
theorem snd_frz (hn : PE X en (TNe G P eA W (evN G.tb Φ n))) : PE X en (TV G P eA W (evE G.tb Φ (.frz n))) := by
  refine hn.wk fun σ H Q ⟨s, F, A, r, h⟩ => ?_
  rw [evE] at h
  exact TNe.frz r h fun ds s1 F1 A1 H1 a vs e1 p1 r1 h1 h2 q1 => q1.now r1 _ (.lst h1 h2)
theorem sndN_cat (ha : PE X en (TNe G P eA W (evN G.tb Φ n))) (hb : PE X en2 (TNe G P eA W (evN G.tb Φ n2))) : PE X (.BinOp en .Add en2 pos) (TNe G P eA W (evN G.tb Φ (.cat n n2))) := by
  refine (pe_op (cat_run (G := G) (P := P)) ha hb).wk fun σ H Q ⟨s, F, A, r, h⟩ => ?_
  rw [evN] at h
  refine TNe.frz r h fun ds s1 F1 A1 H1 a vs e1 p1 r1 h1 h2 q1 => TNe.frz r1 q1 fun es s2 F2 A2 H2 b ws e2 p2 r2 h3 h4 q2 => ?_
  split at q2
  · exact ⟨s2.M, F2, A2, ds, es, r2.mem, ⟨a, vs, rfl, r2.mem.ex _ _ (e2 _ _ h1), h2.mono e2⟩, ⟨b, ws, rfl, r2.mem.ex _ _ h3, h4⟩, by assumption, q2.ansN r2⟩
  · exact q2.elim
theorem listAt_of {M : List D} {F : Hp} {A : List Ad} {H : Hp} {x : Sl} {u : V} {xs : List D} (rm : RelM G P M F A H) (rx : RepS G F A eA x u) (h : x = .d (.lst xs) ∨ ∃ j, x = .ref j ∧ M[j]? = some (.lst xs)) : ListAt G F H xs u := by
  rcases h with rfl | ⟨j, rfl, hm⟩
  · obtain ⟨a, vs, rfl, h1, h2⟩ := Rep.lst_ rx
    exact ⟨a, vs, rfl, rm.ex _ _ h1, h2⟩
  · obtain ⟨a, ha, rfl⟩ := rx
    obtain ⟨vs, h1, h2⟩ := rm.at_ ha hm
    exact ⟨a, vs, rfl, h1, h2⟩
theorem sndN_catE (ha : PE X ea (TV G P eA W (evE G.tb Φ a))) (hb : PE X en2 (TNe G P eA W (evN G.tb Φ n2))) : PE X (.BinOp ea .Add en2 pos) (TNe G P eA W (evN G.tb Φ (.catE a n2))) := by
  refine (pe_op (cat_run (G := G) (P := P)) ha hb).wk fun σ H Q ⟨s, F, A, r, h⟩ => ?_
  rw [evN] at h
  refine TV.of r h fun x s1 F1 A1 H1 u e1 p1 r1 ru q1 => TNe.frz r1 q1 fun es s2 F2 A2 H2 b ws e2 p2 r2 h3 h4 q2 => ?_
  have ru' := ru.mono e2 p2
  split at q2
  · split at q2
    · exact ⟨s2.M, F2, A2, _, es, r2.mem, listAt_of r2.mem ru' (.inl rfl), ⟨b, ws, rfl, r2.mem.ex _ _ h3, h4⟩, by assumption, q2.ansN r2⟩
    · exact q2.elim
  · split at q2
    · split at q2
      · exact ⟨s2.M, F2, A2, _, es, r2.mem, listAt_of r2.mem ru' (.inr ⟨_, rfl, by assumption⟩), ⟨b, ws, rfl, r2.mem.ex _ _ h3, h4⟩, by assumption, q2.ansN r2⟩
      · exact q2.elim
    · exact q2.elim
  · exact q2.elim
theorem sndN_catF (ha : PE X en (TNe G P eA W (evN G.tb Φ n))) (hb : PE X eb (TV G P eA W (evE G.tb Φ b))) : PE X (.BinOp en .Add eb pos) (TNe G P eA W (evN G.tb Φ (.catF n b))) := by
  refine (pe_op (cat_run (G := G) (P := P)) ha hb).wk fun σ H Q ⟨s, F, A, r, h⟩ => ?_
  rw [evN] at h
  refine TNe.frz r h fun ds s1 F1 A1 H1 a vs e1 p1 r1 h1 h2 q1 => TV.of r1 q1 fun y s2 F2 A2 H2 w e2 p2 r2 rw' q2 => ?_
  have l1 : ListAt G F2 H2 ds (.ref a) := ⟨a, vs, rfl, r2.mem.ex _ _ (e2 _ _ h1), h2.mono e2⟩
  split at q2
  · split at q2
    · exact ⟨s2.M, F2, A2, ds, _, r2.mem, l1, listAt_of r2.mem rw' (.inl rfl), by assumption, q2.ansN r2⟩
    · exact q2.elim
  · split at q2
    · split at q2
      · exact ⟨s2.M, F2, A2, ds, _, r2.mem, l1, listAt_of r2.mem rw' (.inr ⟨_, rfl, by assumption⟩), by assumption, q2.ansN r2⟩
      · exact q2.elim
    · exact q2.elim
  · exact q2.elim
theorem sndN_rep (ha : PE X en (TNe G P eA W (evN G.tb Φ n))) (hb : PE X eb (TV G P eA W (evE G.tb Φ b))) : PE X (.BinOp en .Mult eb pos) (TNe G P eA W (evN G.tb Φ (.rep n b))) := by
  refine (pe_op (rep_run (G := G) (P := P)) ha hb).wk fun σ H Q ⟨s, F, A, r, h⟩ => ?_
  rw [evN] at h
  refine TNe.frz r h fun ds s1 F1 A1 H1 a vs e1 p1 r1 h1 h2 q1 => TV.of r1 q1 fun y s2 F2 A2 H2 w e2 p2 r2 rw' q2 => ?_
  split at q2
  · rename_i kk hk
    split at q2
    · exact ⟨s2.M, F2, A2, ds, kk, r2.mem, ⟨a, vs, rfl, r2.mem.ex _ _ (e2 _ _ h1), h2.mono e2⟩, rep_int hk rw', by assumption, q2.ansN r2⟩
    · exact q2.elim
  · exact q2.elim
end
end GF

set_option Elab.async false
set_option linter.all false
set_option maxRecDepth 100000
set_option autoImplicit false
set_option maxHeartbeats 1000000
namespace GF
open PySem PySem.Spec PyProof.Rows L2

section
variable {X : Cx} {ti : Ti} {G : Ge} {Φ : Nat → FM} {k : Nat} {eA : EA} {c : Cs} {P : Hp} {W : WX} {pos p apos : Pos}
variable {a b d : E} {ea eb ed e1 : Expr} {as : As} {es : List Expr} {n n2 : N} {en en2 : Expr}

/-! ### calls -/
theorem call_pe {f : Nat} {fx : Fx} {x : Str} (hX : XOk ti G Φ k eA c X) (tk : Takes X W) (hg : glB c x = true) (hf : ti.fns[f]? = some fx) (hn : fx.gname = some x) (hq : (c.calm || fx.quiet) = true) (hok : okA ti c as (e1 :: es) = true)
    (ha : PA X (e1 :: es) (TAr G P eA W (evA G.tb Φ as))) : PE X (.Call (.Name x p) (e1 :: es) [] pos) (tCallSD (spOf G (Φ f) fx.ps.length) [] (WE W) (TAr G P eA W (evA G.tb Φ as))) := by
  obtain ⟨g1, g2⟩ := gl_of hX hg
  obtain ⟨fa, fd, hk, hm, hb, Fok, Fq, Fk, _, _⟩ := hX.fns f fx hf
  obtain ⟨as1, as', e, rfl, h1, h2⟩ : ∃ (as1 : E) (as' : As) (e : Unit), as = .cons as1 as' ∧ okE ti c as1 e1 = true ∧ okA ti c as' es = true := by
    cases as with
    | nil => simp [okA] at hok
    | cons a1 a2 => rw [okA, Bool.and_eq_true] at hok; exact ⟨a1, a2, (), rfl, hok.1, hok.2⟩
  have hst := star_of (ok_notStar h1).1 es X.env
  have hpl := star_all pos X.env h2
  by_cases hc : c.calm = true
  · exact pe_callSD Fok ((hX.room hc).mono (Nat.le_succ _)) g1 (hm x hn) hk hb .nil (fun σ => passAt tk σ) ha g2 hst hpl
  · have hq' : fx.quiet = true := by
      cases h : c.calm with
      | true => exact absurd h hc
      | false => rw [h] at hq; simpa using hq
    exact pe_callQ (Fq hq') (hX.roomH.mono (Nat.le_succ _)) g1 (hm x hn) hk hb .nil (fun σ => passAt tk σ) ha g2 hst hpl
theorem snd_call {f : Nat} {fx : Fx} {x : Str} (hX : XOk ti G Φ k eA c X) (tk : Takes X W) (hg : glB c x = true) (hf : ti.fns[f]? = some fx) (hn : fx.gname = some x) (hl : lenA as = fx.ps.length) (hq : (c.calm || fx.quiet) = true) (hok : okA ti c as (e1 :: es) = true)
    (ha : PA X (e1 :: es) (TAr G P eA W (evA G.tb Φ as))) : PE X (.Call (.Name x p) (e1 :: es) [] pos) (TV G P eA W (evE G.tb Φ (.call f as))) := by
  refine (call_pe hX tk hg hf hn hq hok ha).wk fun σ H Q ⟨s, F, A, r, h⟩ => ?_
  rw [evE] at h
  refine TAr.of r h fun vs s2 F2 A2 H2 us hv e2 p2 r2 rus q2 => ?_
  show spOf G (Φ f) fx.ps.length (us ++ []) H2 Q (WE W σ)
  rw [List.append_nil, ← hl, ← evA_len hv, Paired.length rus]
  refine call_sp rus r2 q2.split fun v u s' F' H' R1 e rv q => ?_
  cases v with
  | d x => exact q.now R1 u rv
  | new xs =>
    obtain ⟨a, ws, rfl, h1, h2, h3, h4, h5⟩ := rv
    have e' : Ext F' (upd F' a (.lst ws)) := Ext.new h2
    exact (PstE.mono e' (List.prefix_refl _) q).now (R1.mono' e' (R1.mem.freeze h2 h3 h4 h1)) _ (.lst upd_same (h5.mono e'))
theorem sndN_call {f : Nat} {fx : Fx} {x : Str} (hX : XOk ti G Φ k eA c X) (tk : Takes X W) (hg : glB c x = true) (hf : ti.fns[f]? = some fx) (hn : fx.gname = some x) (hl : lenA as = fx.ps.length) (hq : (c.calm || fx.quiet) = true) (hok : okA ti c as (e1 :: es) = true)
    (ha : PA X (e1 :: es) (TAr G P eA W (evA G.tb Φ as))) : PE X (.Call (.Name x p) (e1 :: es) [] pos) (TNe G P eA W (evN G.tb Φ (.call f as))) := by
  refine (call_pe hX tk hg hf hn hq hok ha).wk fun σ H Q ⟨s, F, A, r, h⟩ => ?_
  rw [evN] at h
  refine TAr.of r h fun vs s2 F2 A2 H2 us hv e2 p2 r2 rus q2 => ?_
  show spOf G (Φ f) fx.ps.length (us ++ []) H2 Q (WE W σ)
  rw [List.append_nil, ← hl, ← evA_len hv, Paired.length rus]
  refine call_sp rus r2 q2.split fun v u s' F' H' R1 e rv q => ?_
  cases v with
  | d x => exact q.elim
  | new xs =>
    obtain ⟨a, ws, rfl, h1, h2, h3, h4, h5⟩ := rv
    exact q.now R1 a ws h1 h2 h3 h4 h5

/-! ### built-ins -/
theorem args_plain {as : As} (hok : okA ti c as (e1 :: es) = true) (env : Env) (pos : Pos) : starEach (e1 :: es) env = (false, eval e1 env) :: starEach es env ∧ (backTo pos (starEach es env)).any (·.1) = false := by
  cases as with
  | nil => simp [okA] at hok
  | cons a1 a2 => rw [okA, Bool.and_eq_true] at hok; exact ⟨star_of (ok_notStar hok.1).1 es env, star_all pos env hok.2⟩
theorem blt_pe {b : Blt} {x : Str} {r : List V → Hp → VK → Prop} {t : TA} (hX : XOk ti G Φ k eA c X) (hc : CallR X (bltV b) r) (hg : glB c x = true) (hx : x = bltNm b) (hm : bltFree ti b x = true) (hok : okA ti c as (e1 :: es) = true) (ha : PA X (e1 :: es) t) :
    PE X (.Call (.Name x p) (e1 :: es) [] pos) (tCB r t) := by
  obtain ⟨g1, g2⟩ := gl_of hX hg
  obtain ⟨hst, hpl⟩ := args_plain (as := as) hok X.env pos
  subst hx
  cases b
  case len => exact pe_callB hc g1 (free_of hX hm) boot_len ha (by decide) g2 hst hpl
  case int => exact pe_callTy hc g1 (free_of hX hm) PyProof.Rows.boot_int ha (by decide) g2 hst hpl
  case bool => exact pe_callTy hc g1 (free_of hX hm) PyProof.Rows.boot_bool ha (by decide) g2 hst hpl
  case abs => exact pe_callB hc g1 (free_of hX hm) boot_abs ha (by decide) g2 hst hpl
  case min2 => exact pe_callB hc g1 (free_of hX hm) boot_min ha (by decide) g2 hst hpl
  case max2 => exact pe_callB hc g1 (free_of hX hm) boot_max ha (by decide) g2 hst hpl
  case minl => exact pe_callB hc g1 (free_of hX hm) boot_min ha (by decide) g2 hst hpl
  case maxl => exact pe_callB hc g1 (free_of hX hm) boot_max ha (by decide) g2 hst hpl
  case sum => exact pe_callB hc g1 (free_of hX hm) boot_sum ha (by decide) g2 hst hpl
  case tuple => exact pe_callTy hc g1 (free_of hX hm) PyProof.Rows.boot_tuple ha (by decide) g2 hst hpl
  case str => exact pe_callTy hc g1 (free_of hX hm) PyProof.Rows.boot_str ha (by decide) g2 hst hpl
  case all => exact pe_callB hc g1 (free_of hX hm) boot_all ha (by decide) g2 hst hpl
  case any => exact pe_callB hc g1 (free_of hX hm) boot_any ha (by decide) g2 hst hpl
  case gcd => exact pe_callBfun hc g1 (hX.gcd hm) ha g2 hst hpl
theorem snd_blt {b : Blt} {x : Str} (hX : XOk ti G Φ k eA c X) (hg : glB c x = true) (hx : x = bltNm b) (hn : (!bltNeeds b || c.calm) = true) (hm : bltFree ti b x = true) (hok : okA ti c as (e1 :: es) = true)
    (ha : PA X (e1 :: es) (TAr G P eA W (evA G.tb Φ as))) : PE X (.Call (.Name x p) (e1 :: es) [] pos) (TV G P eA W (evE G.tb Φ (.blt b as))) := by
  have hc : bltNeeds b = true → X.calm = true := fun z => hX.calm (by rw [z] at hn; simpa using hn)
  refine (blt_pe hX (blt_run (P := P) (eA := eA) hX.K hc) hg hx hm hok ha).wk fun σ H Q ⟨s, F, A, r, h⟩ => ?_
  rw [evE] at h
  refine TAr.of r h fun vs s2 F2 A2 H2 us hv e2 p2 r2 rus q2 => ?_
  obtain ⟨z, hz, q⟩ := q2.optR
  exact ⟨s2.M, F2, A2, vs, z, rus, r2.mem, hz, q.ansD r2⟩
theorem sndN_list (hX : XOk ti G Φ k eA c X) (hg : glB c "list" = true) (hm : ti.free.contains "list" = true) (hn : ∀ x p, ea ≠ .Starred x p) (ha : PE X ea (TV G P eA W (evE G.tb Φ a))) :
    PE X (.Call (.Name "list" p) [ea] [] pos) (TNe G P eA W (evN G.tb Φ (.ofSeq a))) := by
  obtain ⟨g1, g2⟩ := gl_of hX hg
  have hst := star_of hn [] X.env
  refine (pe_callTy (list_run (P := P) (eA := eA) hX.K) g1 (free_of hX hm) PyProof.Rows.boot_list (pa_cons ha pa_nil hst) (by decide) g2 hst rfl).wk fun σ H Q ⟨s, F, A, r, h⟩ => ?_
  rw [evN] at h
  refine TV.of r h fun x s1 F1 A1 H1 u e1 p1 r1 ru q1 => ?_
  obtain ⟨ds, hd, q⟩ := q1.optR
  exact ⟨s1.M, F1, A1, x, u, ds, rfl, r1.mem, ru, hd, q.ansN r1⟩

/-! ### methods -/
theorem few_of {as : As} {es : List Expr} (env : Env) (hok : okA ti c as es = true) (hl : es.length ≤ 20) : ((backTo pos (starEach es env)).all (fun x => !x.1) && (backToKw pos (keywordEach [] env)).all (fun x => x.1.isSome)
      && decide (es.length + ([] : List Keyword).length + (if ([] : List Keyword).isEmpty then 0 else 1) < 30)) = true := by
  have h1 : (backTo pos (starEach es env)).all (fun x => !x.1) = true := by
    have := star_all pos env hok
    rw [List.any_eq_false] at this
    rw [List.all_eq_true]
    exact fun x hx => by have := this x hx; simpa using this
  rw [h1, Bool.true_and]
  have h2 : (backToKw pos (keywordEach [] env)).all (fun x => x.1.isSome) = true := rfl
  rw [h2, Bool.true_and]
  exact decide_eq_true (by show es.length + 0 + 0 < 30; omega)
theorem bm_slot : ∀ m : Bm, m = .join ∨ m = .rstrip1 → Slot "str" (bmNm m) (bmId m) ∧ typeOf (.builtin (bmId m)) = pure (.type "method_descriptor") := by
  rintro _ (rfl | rfl)
  · exact ⟨F.slot_str_join, F.type_str_join⟩
  · exact ⟨F.slot_str_rstrip, F.type_str_rstrip⟩
theorem snd_bm {m : Bm} {eo : Expr} {o : E} (hX : XOk ti G Φ k eA c X) (hm : m = .join ∨ m = .rstrip1) (ho : PE X eo (TV G P eA W (evE G.tb Φ o))) (hok : okA ti c as (e1 :: es) = true) (ha : PA X (e1 :: es) (TAr G P eA W (evA G.tb Φ as))) (hb : baseB eo = true) (hline : (apos.endLine == pos.line) = true) (hl : es.length < 20) :
    PE X (.Call (.Attribute eo (bmNm m) apos) (e1 :: es) [] pos) (TV G P eA W (evE G.tb Φ (.bm m o as))) := by
  obtain ⟨hst, hpl⟩ := args_plain (as := as) hok X.env pos
  obtain ⟨sl, ty⟩ := bm_slot m hm
  refine (pe_bm F.plainAttrs_str sl ty (bm_run (P := P) (eA := eA) hX.K) ho ha (base_of hb _ _ _) (few_of X.env hok (by show es.length + 1 ≤ 20; omega)) hline hst hpl).wk fun σ H Q ⟨s, F, A, r, h⟩ => ?_
  rw [evE] at h
  refine TV.of r h fun x s1 F1 A1 H1 u e1 p1 r1 ru q1 => ?_
  split at q1
  · obtain ⟨rfl, ot⟩ := Rep.str_ ru
    refine ⟨?_, TAr.of r1 q1 fun vs s2 F2 A2 H2 us hv e2 p2 r2 rus q2 => ?_⟩
    · exact rfl
    · obtain ⟨z, hz, q⟩ := q2.optR
      exact ⟨s2.M, F2, A2, _, vs, z, RepS.mono e2 p2 ru, rus, r2.mem, hz, q.ansD r2⟩
  · exact q1.elim
end
end GF

set_option Elab.async false
set_option linter.all false
set_option maxRecDepth 100000
set_option autoImplicit false
set_option maxHeartbeats 1000000
namespace GF
open PySem PySem.Spec PyProof.Rows L2

theorem _root_.L2.PK.wk {X : Cx} {e : List Keyword} {t t' : TA} (h : PK X e t) (hw : ∀ σ H Q, t' σ H Q → t σ H Q) : PK X e t' := ⟨fun pos pins s σ H Q I q => h.run pos pins s σ H Q I (hw _ _ _ q)⟩
theorem perm_paired {α β : Type} {R : α → β → Prop} {xs : List α} {ys : List β} (h : Paired R xs ys) : ∀ (perm : List Nat), Paired R (permute perm xs) (permute perm ys)
  | [] => .nil
  | i :: perm => by
    have ih := perm_paired h perm
    have key : (∃ a b, xs[i]? = some a ∧ ys[i]? = some b ∧ R a b) ∨ (xs[i]? = none ∧ ys[i]? = none) := by
      clear ih
      induction h generalizing i with
      | nil => exact .inr ⟨rfl, rfl⟩
      | cons r t ih => cases i with
        | zero => exact .inl ⟨_, _, rfl, rfl, r⟩
        | succ i => simpa using ih i
    unfold permute at ih ⊢
    rcases key with ⟨a, b, h1, h2, r⟩ | ⟨h1, h2⟩
    · rw [List.filterMap_cons, List.filterMap_cons, h1, h2]
      exact .cons r ih
    · rw [List.filterMap_cons, List.filterMap_cons, h1, h2]
      exact ih
theorem perm_len {α β : Type} {xs : List α} {ys : List β} (h : xs.length = ys.length) : ∀ (perm : List Nat), (permute perm xs).length = (permute perm ys).length
  | [] => rfl
  | i :: perm => by
    have ih := perm_len h perm
    unfold permute at ih ⊢
    by_cases hi : i < xs.length
    · rw [List.filterMap_cons, List.filterMap_cons, List.getElem?_eq_getElem hi, List.getElem?_eq_getElem (h ▸ hi)]
      simp [ih]
    · rw [List.filterMap_cons, List.filterMap_cons, List.getElem?_eq_none (by omega), List.getElem?_eq_none (by omega)]
      exact ih
theorem paired_app {α β : Type} {R : α → β → Prop} {xs xs' : List α} {ys ys' : List β} (h : Paired R xs ys) (h' : Paired R xs' ys') : Paired R (xs ++ xs') (ys ++ ys') := by
  induction h with
  | nil => exact h'
  | cons r _ ih => exact .cons r ih
theorem datas_rep {G : Ge} {F : Hp} {A : List Ad} {eA : EA} : ∀ {ds : List D} {vs : List V}, Reps G F ds vs → RepSs G F A eA (ds.map .d) vs
  | _, _, .nil => .nil
  | _, _, .cons r t => .cons r (datas_rep t)
theorem kw_all (pos : Pos) (env : Env) : ∀ {kws : List Keyword} {ks : List Str}, kws.map (·.arg) = ks.map some → (backToKw pos (keywordEach kws env)).all (·.1.isSome) = true ∧ (backToKw pos (keywordEach kws env)).filterMap (·.1) = ks ∧ (backToKw pos (keywordEach kws env)).any (·.1.isNone) = false
  | [], [], _ => ⟨rfl, rfl, rfl⟩
  | [], _ :: _, h => by cases h
  | _ :: _, [], h => by cases h
  | ⟨nm, e, p⟩ :: kws, k :: ks, h => by
    have h1 : nm = some k := by simpa using (List.cons.inj h).1
    obtain ⟨i1, i2, i3⟩ := kw_all pos env (List.cons.inj h).2
    subst h1
    refine ⟨?_, ?_, ?_⟩
    · show (true && (backToKw pos (keywordEach kws env)).all _) = true
      rw [i1]; rfl
    · show k :: (backToKw pos (keywordEach kws env)).filterMap (·.1) = k :: ks
      rw [i2]
    · show (false || (backToKw pos (keywordEach kws env)).any _) = false
      rw [i3]; rfl
section
variable {X : Cx} {ti : Ti} {G : Ge} {Φ : Nat → FM} {k : Nat} {eA : EA} {c : Cs} {P : Hp} {W : WX} {pos p apos : Pos}
variable {a b d : E} {ea eb ed e1 : Expr} {as bs : As} {es : List Expr} {kws : List Keyword}
theorem sndK_nil : PK X [] (TAr G P eA W (evA G.tb Φ .nil)) := by
  refine pk_nil.wk fun σ H Q ⟨s, F, A, r, h⟩ => ?_
  rw [evA] at h
  exact h.now r _ .nil
theorem sndK_cons {nm : Option Str} {kp : Pos} (ha : PE X ea (TV G P eA W (evE G.tb Φ a))) (hr : PK X kws (TAr G P eA W (evA G.tb Φ as))) : PK X (⟨nm, ea, kp⟩ :: kws) (TAr G P eA W (evA G.tb Φ (.cons a as))) := by
  refine (pk_cons ha hr).wk fun σ H Q ⟨s, F, A, r, h⟩ => ?_
  rw [evA] at h
  exact TV.of r h fun x s1 F1 A1 H1 u e1 p1 r1 ru q1 => TAr.of r1 q1 fun vs s2 F2 A2 H2 us _ e2 p2 r2 rus q2 => q2.now r2 _ (.cons (ru.mono e2 p2) rus)
def tCallP (n m : Nat) (sp : Sp) (g : List V → List V → List V) (E : St' → XK) (t tk : TA) : TE := fun σ H Q => t σ H fun vs H1 => tk σ H1 fun zs H2 => vs.length = n ∧ zs.length = m ∧ sp (g vs zs) H2 Q (E σ)
theorem pe_callP {f : Ad} {fd : FuncData} {ps ks : List Str} {sp : Sp} {E : St' → XK} {x : Str} {t tk : TA} {n : Nat} {g : List Value → List Value → List Value} {gV : List V → List V → List V}
    (Fk : FnOk X.prog X.w X.K X.mg X.base (L2.CX X.prog X.w) k f fd ps sp) (hr : Room k X.A) (hg : Gl X x) (hm : X.mg x = some (.ref f)) (hk : PySem.W.keepIn X.K (.ref f) = true) (hb : KBn X.K fd ps n ks g gV) (hx : ∀ σ, PassesAt (L2.CX X.prog X.w) X σ (E σ))
    (ha : PA X es t) (hkw : PK X kws tk) (hks : kws.map (·.arg) = ks.map some) (hdb : (x == ("__debug__" : Str)) = false) (hst : okA ti c as es = true) :
    PE X (.Call (.Name x p) es kws pos) (tCallP n ks.length sp gV E t tk) := by
  obtain ⟨k1, k2, k3⟩ := kw_all pos X.env hks
  refine ⟨fun pins s σ H Q I h => ?_⟩
  refine wpAny_Call_Name_kw (ld_glob I hg hm ?_ hdb)
  have fin : ∀ {us : List Value} {vs : List V} {s1 : Shared} {H1 : Hp}, Inv X pins σ H1 s1 → Vals vs us → tk σ H1 (fun zs H2 => vs.length = n ∧ zs.length = ks.length ∧ sp (gV vs zs) H2 Q (E σ)) →
      wpAny (model X.prog X.w) X.A (evalAll ((backToKw pos (keywordEach kws X.env)).map (·.2))) (fun ws s₂ => X.K.In s₂.heap ∧ wpAny (model X.prog X.w) X.A (call (.ref f) ([] ++ us) (((backToKw pos (keywordEach kws X.env)).filterMap (·.1)).zip ws)) (EP X pins σ Q) X.xe s₂) X.xe s1 := by
    intro us vs s1 H1 I1 r q
    refine thn (hkw.run pos pins s1 σ H1 _ I1 q) fun ws s2 ⟨zs, H2, I2, rz, l1, l2, q2⟩ => ⟨I2.kIn, ?_⟩
    rw [k2]
    have r2 := hb.rel r rz
    refine wpAny_call (codeAny_mono (Fk.run X.A X.stack s2 H2 ⟨us, ks.zip ws⟩ (g us ws) (gV vs zs) Q (E σ) hr I2.env0 (hb.to s2 us ws I2.kIn (r.length.symm.trans l1) (rz.length.symm.trans l2)) r2 q2) fun r s' hq => ?_)
    match r, hq with
    | .error e, hq => exact hx σ pins H2 s2 e s' I2 hq
    | .ok (.ret u), hq => exact I2.after hq
  match es, as, hst, ha with
  | [], _, _, ha =>
    have h0 := ha.run pos pins s σ H _ I h
    intro Γ pp hΓ
    have hh : AP X pins σ (fun vs H1 => tk σ H1 fun zs H2 => vs.length = n ∧ zs.length = ks.length ∧ sp (gV vs zs) H2 Q (E σ)) [] s := h0 Γ pp hΓ
    obtain ⟨vs, H1, I1, r, q⟩ := hh
    exact PySem.W.callWith_KW0 (h₀ := X.base) I.ok.mod.kin hk k1 (fin I1 r q) (by rw [k3]; rfl) Γ pp hΓ
  | e1 :: es, as, hst, ha =>
    obtain ⟨as1, as', rfl, h1, h2⟩ : ∃ (as1 : GF.E) (as' : As), as = .cons as1 as' ∧ okE ti c as1 e1 = true ∧ okA ti c as' es = true := by
      cases as with
      | nil => simp [okA] at hst
      | cons a1 a2 => rw [okA, Bool.and_eq_true] at hst; exact ⟨a1, a2, rfl, hst.1, hst.2⟩
    have he := star_of (ok_notStar h1).1 es X.env
    have hpl := star_all pos X.env h2
    refine PySem.W.callWith_KW (h₀ := X.base) I.ok.mod.kin hk k1 (thn (ha.run pos pins s σ H _ I h) fun us s1 ⟨vs, H1, I1, r, q⟩ => fin I1 r q) ?_ he
    rw [k3, he]
    show (false || (backTo pos (starEach es X.env)).any (·.1) || false) = false
    rw [hpl]; rfl
theorem snd_callK {pt : Nat} {q : Pat} {fx : Fx} {x : Str} (hX : XOk ti G Φ k eA c X) (tk : Takes X W) (hc : c.calm = true) (hg : glB c x = true) (hp : ti.tb.pats[pt]? = some q) (hf : ti.fns[q.f]? = some fx) (hn : fx.gname = some x) (hm : pt ∈ fx.pats) (hl : lenA as = q.n)
    (hks : kws.map (·.arg) = q.ks.map fun z => some (Str.ofString z)) (hpl : (permute q.perm (List.range (q.n + (q.ks.length + q.dfl.length)))).length = fx.ps.length) (hok : okA ti c as es = true) (ha : PA X es (TAr G P eA W (evA G.tb Φ as))) (hb : PK X kws (TAr G P eA W (evA G.tb Φ bs))) (hlb : lenA bs = q.ks.length) :
    PE X (.Call (.Name x p) es kws pos) (TV G P eA W (evE G.tb Φ (.callK pt as bs))) := by
  obtain ⟨g1, g2⟩ := gl_of hX hg
  obtain ⟨fa, fd, hk, hmg, hbi, Fok, Fq, Fk, _, _⟩ := hX.fns q.f fx hf
  obtain ⟨dus, dvs, rd, rr, hbt⟩ := Fk pt q hm (hX.tb ▸ hp)
  have hks' : kws.map (·.arg) = (q.ks.map Str.ofString).map some := by rw [hks, List.map_map]; rfl
  have kb : KBn X.K fd fx.ps q.n (q.ks.map Str.ofString) (fun us ws => permute q.perm (us ++ (ws ++ dus))) (fun vs zs => permute q.perm (vs ++ (zs ++ dvs))) :=
    ⟨fun s us ws X l1 l2 => hbt s us ws X l1 (by simpa using l2), fun r rz => perm_paired (paired_app r (paired_app rz rd)) _⟩
  refine (pe_callP (E := WE W) Fok ((hX.room hc).mono (Nat.le_succ _)) g1 (hmg x hn) hk kb (fun σ => passAt tk σ) ha hb hks' g2 hok).wk fun σ H Q ⟨s, F, A, r, h⟩ => ?_
  rw [evE] at h
  refine TAr.of r h fun vs s2 F2 A2 H2 us hv e2 p2 r2 rus q2 => ?_
  refine TAr.of r2 q2 fun ws s3 F3 A3 H3 zs hw e3 p3 r3 rzs q3 => ?_
  have l1 : us.length = q.n := by rw [← hl, ← evA_len hv, Paired.length rus]
  have l2 : zs.length = q.ks.length := by rw [← hlb, ← evA_len hw, Paired.length rzs]
  refine ⟨l1, by simpa using l2, ?_⟩
  rw [show G.tb.pats[pt]? = some q from hX.tb ▸ hp] at q3
  have rall : RepSs G F3 A3 eA (permute q.perm (vs ++ (ws ++ q.dfl.map .d))) (permute q.perm (us ++ (zs ++ dvs))) := perm_paired (paired_app (rus.mono e3 p3) (paired_app rzs (datas_rep (rr F3)))) _
  have ld : dvs.length = q.dfl.length := Reps.length (rr F3)
  have lps : (permute q.perm (us ++ (zs ++ dvs))).length = fx.ps.length := by
    rw [← hpl]
    exact perm_len (by simp [l1, l2, ld]) _
  rw [← lps]
  refine call_sp rall r3 q3.split fun v u s' F' H' R1 e rv q => ?_
  cases v with
  | d x => exact q.now R1 u rv
  | new xs =>
    obtain ⟨a, ws, rfl, h1, h2, h3, h4, h5⟩ := rv
    have e' : Ext F' (upd F' a (.lst ws)) := Ext.new h2
    exact (PstE.mono e' (List.prefix_refl _) q).now (R1.mono' e' (R1.mem.freeze h2 h3 h4 h1)) _ (.lst upd_same (h5.mono e'))
end
end GF

set_option Elab.async false
set_option linter.all false
set_option maxRecDepth 100000
set_option autoImplicit false
set_option maxHeartbeats 1000000
namespace GF
open PySem PySem.Spec PyProof.Rows L2

/-! ### fields -/
theorem posOf_get : ∀ {xs : List String} {x : String} {i : Nat}, posOf x xs = some i → xs[i]? = some x
  | [], _, _, h => by cases h
  | y :: r, x, i, h => by
    unfold posOf at h
    split at h
    · rename_i e
      cases h
      rw [e]; rfl
    · obtain ⟨j, hj, rfl⟩ := Option.map_eq_some_iff.mp h
      simpa using posOf_get hj
theorem fix_of {tb : Tb} {c : Nat} {x : String} {i : Nat} (h : tb.fix c x = some i) : ∃ ci, tb.cls[c]? = some ci ∧ ci.exc = false ∧ ci.flds[i]? = some x := by
  unfold Tb.fix at h
  obtain ⟨ci, h1, h2⟩ := Option.bind_eq_some_iff.mp h
  split at h2
  · cases h2
  · rename_i he
    exact ⟨ci, h1, by simpa using he, posOf_get h2⟩
theorem isExc_at {tb : Tb} {c : Nat} {ci : ClsI} (h : tb.cls[c]? = some ci) : tb.isExc c = ci.exc := by simp [Tb.isExc, h]
theorem cls_lt {tb : Tb} {c : Nat} {ci : ClsI} (h : tb.cls[c]? = some ci) : c < tb.cls.length := (List.getElem?_eq_some_iff.mp h).1
theorem lookupV_at : ∀ {fv : List (Str × V)} {i : Nat} {f : Str} {v : V}, (fv.map (·.1)).Nodup → (fv.map (·.1))[i]? = some f → (fv.map (·.2))[i]? = some v → fv.lookup f = some v
  | [], _, _, _, _, h, _ => by simp at h
  | (k, x) :: r, 0, f, v, nd, h1, h2 => by
    simp at h1 h2
    subst h1 h2
    simp [List.lookup]
  | (k, x) :: r, i + 1, f, v, nd, h1, h2 => by
    rw [List.map_cons, List.nodup_cons] at nd
    have h1' : (r.map (·.1))[i]? = some f := by simpa using h1
    have ne : f ≠ k := fun z => nd.1 (by rw [← z]; exact List.mem_of_getElem? h1')
    have : (f == k) = false := by simpa using ne
    rw [List.lookup, this]
    exact lookupV_at (i := i) nd.2 h1' (by simpa using h2)
theorem lookup_no : ∀ {fv : List (Str × V)} {f : Str}, f ∉ fv.map (·.1) → fv.lookup f = none
  | [], _, _ => rfl
  | (k, x) :: r, f, h => by
    rw [List.map_cons, List.mem_cons, not_or] at h
    have : (f == k) = false := by simpa using h.1
    rw [List.lookup, this]
    exact lookup_no h.2
section
variable {G : Ge} {P : Hp} {M : List D} {F : Hp} {A : List Ad} {H : Hp} {eA : EA} {x : Sl} {u : V} {c : Nat} {fs : List D}
/-- an instance behind a value -/
theorem obj_at (hr : RelM G P M F A H) (rx : RepS G F A eA x u) (ho : objS M x = some (c, fs)) :
    ∃ a dx fv, u = .ref a ∧ H a = some (.ins (G.cad c) dx fv) ∧ fv.map (·.1) = (G.nms c).take fs.length ∧ Reps G F fs (fv.map (·.2)) := by
  unfold objS at ho
  split at ho
  · cases ho
    cases rx with
    | @obj a dx _ fv vs _ h1 h2 h3 h4 =>
      subst h3
      refine ⟨a, dx, fv, rfl, hr.ex _ _ h1, ?_, h4⟩
      have e := h4.length
      rw [List.length_map] at e
      have e2 := congrArg List.length h2
      rw [List.length_map] at e2
      rw [List.take_of_length_le (by omega)]
      exact h2
  · rename_i j
    split at ho
    · rename_i c' fs' hm
      cases ho
      obtain ⟨a, ha, rfl⟩ := rx
      obtain ⟨_, dx, fv, vs, h1, h2, h3, h4⟩ := hr.cells j a _ ha hm
      subst h3
      exact ⟨a, dx, fv, rfl, h1, h2, h4⟩
    · cases ho
  · cases ho
end
section
variable {X : Cx} {ti : Ti} {G : Ge} {Φ : Nat → FM} {k : Nat} {eA : EA} {c : Cs} {P : Hp} {W : WX} {pos p apos : Pos}
variable {a b : E} {ea eb eo : Expr} {as bs : As} {es : List Expr} {kws : List Keyword}
theorem cls_of (hX : XOk ti G Φ k eA c X) {n : Nat} {ci : ClsI} (h : G.tb.cls[n]? = some ci) (he : ci.exc = false) : Cls X.K (G.cad n) := by
  have := (hX.cls.ins n (cls_lt h) (by rw [isExc_at h]; exact he)).1
  rwa [hX.K] at this
theorem snd_fld {x : String} {nm : Str} (hX : XOk ti G Φ k eA c X) (ha : PE X ea (TV G P eA W (evE G.tb Φ a))) (hb : baseB ea = true) (hn : nm = Str.ofString x) : PE X (.Attribute ea nm apos) (TV G P eA W (evE G.tb Φ (.fld a x))) := by
  refine (pe_fld ha (base_of hb _ _ _)).wk fun σ H Q ⟨s, F, A, r, h⟩ => ?_
  rw [evE] at h
  refine TV.of r h fun v s1 F1 A1 H1 u e1 p1 r1 ru q1 => ?_
  split at q1
  · rename_i cn fs ho
    obtain ⟨d, hd, q⟩ := q1.optR
    obtain ⟨i, hi, hd⟩ := Option.bind_eq_some_iff.mp hd
    obtain ⟨a, dx, fv, rfl, h1, h2, h3⟩ := obj_at r1.mem ru ho
    obtain ⟨ci, k1, k2, k3⟩ := fix_of hi
    obtain ⟨v', hv, rv⟩ := h3.get hd
    have hnm : (G.nms cn)[i]? = some nm := by
      rw [hX.cls.nms cn ci k1, List.getElem?_map, k3, hn]; rfl
    have hno := hX.cls.fld cn nm (cls_lt k1) (List.mem_of_getElem? hnm)
    rw [hX.K] at hno
    have hi' : i < fs.length := (List.getElem?_eq_some_iff.mp hd).1
    refine ⟨a, G.cad cn, dx, fv, v', rfl, h1, cls_of hX k1 k2, hno, lookupV_at (i := i) ?_ ?_ hv, ?_⟩
    · rw [h2]
      exact (hX.cls.nd cn (cls_lt k1)).sublist (List.take_sublist _ _)
    · rw [h2, List.getElem?_take_of_lt hi']
      exact hnm
    · exact q.ansD r1 v' F1 H1 Ext.refl r1.mem rv
  · exact q1.elim

/-! ### calls by a pattern -/
theorem mq_of (hX : XOk ti G Φ k eA c X) {n : Nat} {m : String} {l : Nat} {ks : List String} {q : Pat} (h : G.tb.mq n m l ks = some q) :
    ∃ ci fx pt, G.tb.cls[n]? = some ci ∧ ci.exc = false ∧ Str.ofString m ∉ ci.flds.map Str.ofString ∧ ti.fns[q.f]? = some fx ∧ (n, m) ∈ fx.own ∧ pt ∈ fx.pats ∧ G.tb.pats[pt]? = some q ∧ q.n = l + 1 ∧ q.ks = ks ∧ (permute q.perm (List.range (q.n + (q.ks.length + q.dfl.length)))).length = fx.ps.length := by
  have hm := hX.mp
  unfold Tb.mq at h
  rw [hX.tb] at h ⊢
  obtain ⟨z, h1, h2⟩ := Option.bind_eq_some_iff.mp h
  have hz := List.find?_some h1
  have hin := List.mem_of_find?_eq_some h1
  unfold Tb.mIs at hz
  rw [h2] at hz
  simp only [Bool.and_eq_true, decide_eq_true_eq] at hz
  obtain ⟨e1, e2, e3, e4⟩ := hz
  subst e1 e2
  have := List.all_eq_true.mp hm z hin
  split at this
  · cases this
  rename_i ci hci
  rw [h2] at this
  simp only [Bool.and_eq_true, Bool.not_eq_true', decide_eq_false_iff_not] at this
  obtain ⟨a1, a2, this⟩ := this
  split at this
  · cases this
  rename_i fx hfx
  simp only [Bool.and_eq_true, decide_eq_true_eq] at this
  obtain ⟨a3, a4, a5, a6⟩ := this
  refine ⟨ci, fx, z.2.2, hci, a1, a2, hfx, ?_, ?_, h2, e3, e4, a6⟩
  · exact List.contains_iff_mem.mp a3
  · exact List.contains_iff_mem.mp a4
theorem kw_names (ks : List String) (h : kws.map (·.arg) = ks.map fun z => some (Str.ofString z)) : kws.map (·.arg) = (ks.map Str.ofString).map some := by rw [h, List.map_map]; rfl
/-- the values of a call, then the call -/
theorem args_run {f : Value} {first : List Value} {ks : List Str} {t tk : TA} {R : List V → List V → Hp → Prop} {pins : List (Ad × Obj)} {σ : St'} {H : Hp} {s : Shared} {Q : VK} (hk : PySem.W.keepIn X.K f = true) (ha : PA X es t) (hkw : PK X kws tk) (hks : kws.map (·.arg) = ks.map some) (hst : okA ti c as es = true)
    (I : Inv X pins σ H s) (h : t σ H fun vs H1 => tk σ H1 fun zs H2 => R vs zs H2)
    (fin : ∀ us vs ws zs s2 H2, Inv X pins σ H2 s2 → Vals vs us → Vals zs ws → R vs zs H2 → wpAny (model X.prog X.w) X.A (call f (first ++ us) (ks.zip ws)) (EP X pins σ Q) X.xe s2) :
    wpAny (model X.prog X.w) X.A (callWith pos f first (backTo pos (starEach es X.env)) (backToKw pos (keywordEach kws X.env))) (EP X pins σ Q) X.xe s := by
  obtain ⟨k1, k2, k3⟩ := kw_all pos X.env hks
  have go : ∀ {us : List Value} {vs : List V} {s1 : Shared} {H1 : Hp}, Inv X pins σ H1 s1 → Vals vs us → tk σ H1 (fun zs H2 => R vs zs H2) →
      wpAny (model X.prog X.w) X.A (evalAll ((backToKw pos (keywordEach kws X.env)).map (·.2))) (fun ws s₂ => X.K.In s₂.heap ∧ wpAny (model X.prog X.w) X.A (call f (first ++ us) (((backToKw pos (keywordEach kws X.env)).filterMap (·.1)).zip ws)) (EP X pins σ Q) X.xe s₂) X.xe s1 := by
    intro us vs s1 H1 I1 r q
    refine thn (hkw.run pos pins s1 σ H1 _ I1 q) fun ws s2 ⟨zs, H2, I2, rz, q2⟩ => ⟨I2.kIn, ?_⟩
    rw [k2]
    exact fin us vs ws zs s2 H2 I2 r rz q2
  match es, as, hst, ha with
  | [], _, _, ha =>
    have h0 := ha.run pos pins s σ H _ I h
    intro Γ pp hΓ
    have hh : AP X pins σ (fun vs H1 => tk σ H1 fun zs H2 => R vs zs H2) [] s := h0 Γ pp hΓ
    obtain ⟨vs, H1, I1, r, q⟩ := hh
    exact PySem.W.callWith_KW0 (h₀ := X.base) I.ok.mod.kin hk k1 (go I1 r q) (by rw [k3]; rfl) Γ pp hΓ
  | e1 :: es, as, hst, ha =>
    obtain ⟨as1, as', rfl, h1, h2⟩ : ∃ (as1 : GF.E) (as' : As), as = .cons as1 as' ∧ okE ti c as1 e1 = true ∧ okA ti c as' es = true := by
      cases as with
      | nil => simp [okA] at hst
      | cons a1 a2 => rw [okA, Bool.and_eq_true] at hst; exact ⟨a1, a2, rfl, hst.1, hst.2⟩
    have he := star_of (ok_notStar h1).1 es X.env
    have hpl := star_all pos X.env h2
    refine PySem.W.callWith_KW (h₀ := X.base) I.ok.mod.kin hk k1 (thn (ha.run pos pins s σ H _ I h) fun us s1 ⟨vs, H1, I1, r, q⟩ => go I1 r q) ?_ he
    rw [k3, he]
    show (false || (backTo pos (starEach es X.env)).any (·.1) || false) = false
    rw [hpl]; rfl
/-- what a call by a pattern asks -/
def QV (G : Ge) (eA : EA) (Q : VK) : Sl → S → Hp → List Ad → Hp → Prop := fun v _ F' A' H' => ∀ u, RepS G F' A' eA v u → Q u H'
theorem pat_sp {q : Pat} {fx : Fx} {dvs : List V} {vs zs : List V} {xs ws : List Sl} {st : S} {F : Hp} {A : List Ad} {σ : St'} {H : Hp} {Q : VK} (rr : ∀ F, Reps G F q.dfl dvs) (hlp : (permute q.perm (List.range (q.n + (q.ks.length + q.dfl.length)))).length = fx.ps.length)
    (l1 : vs.length = q.n) (l2 : zs.length = q.ks.length) (r : RelS G P eA st F A σ H) (rx : RepSs G F A eA xs vs) (rw_ : RepSs G F A eA ws zs)
    (h : PstE G P eA W F A σ ((callF (Φ q.f) (permute q.perm (xs ++ (ws ++ q.dfl.map .d))) st).bind fun v s => .ok (rvSl v) s) (QV G eA Q)) : spOf G (Φ q.f) fx.ps.length (permute q.perm (vs ++ (zs ++ dvs))) H Q (WE W σ) := by
  have rall : RepSs G F A eA (permute q.perm (xs ++ (ws ++ q.dfl.map .d))) (permute q.perm (vs ++ (zs ++ dvs))) := perm_paired (paired_app rx (paired_app rw_ (datas_rep (rr F)))) _
  have ld : dvs.length = q.dfl.length := Reps.length (rr F)
  have lps : (permute q.perm (vs ++ (zs ++ dvs))).length = fx.ps.length := by
    rw [← hlp]
    exact perm_len (by simp [l1, l2, ld]) _
  rw [← lps]
  refine call_sp rall r h.split fun v u s' F' H' R1 e rv q => ?_
  cases v with
  | d x => exact q.now R1 u rv
  | new xs =>
    obtain ⟨a, ws, rfl, h1, h2, h3, h4, h5⟩ := rv
    have e' : Ext F' (upd F' a (.lst ws)) := Ext.new h2
    exact (PstE.mono e' (List.prefix_refl _) q).now (R1.mono' e' (R1.mem.freeze h2 h3 h4 h1)) _ (.lst upd_same (h5.mono e'))
theorem run_pat {q : Pat} {fx : Fx} {fa : Ad} {fd : FuncData} {pins : List (Ad × Obj)} {σ : St'} {H : Hp} {s : Shared} {Q : VK} {us ws : List Value} {vs zs : List V} {xs ys : List Sl} {st : S} {F : Hp} {A : List Ad} (tk : Takes X W)
    (Fok : FnOk X.prog X.w X.K X.mg X.base (L2.CX X.prog X.w) (2 * k) fa fd fx.ps (spOf G (Φ q.f) fx.ps.length)) (kb : KB G X.K fd fx.ps q) (hlp : (permute q.perm (List.range (q.n + (q.ks.length + q.dfl.length)))).length = fx.ps.length) (hr : Room (2 * k) X.A)
    (I : Inv X pins σ H s) (r : Vals vs us) (rz : Vals zs ws) (l1 : vs.length = q.n) (l2 : zs.length = q.ks.length) (rS : RelS G P eA st F A σ H) (rx : RepSs G F A eA xs vs) (rw_ : RepSs G F A eA ys zs)
    (h : PstE G P eA W F A σ ((callF (Φ q.f) (permute q.perm (xs ++ (ys ++ q.dfl.map .d))) st).bind fun v s => .ok (rvSl v) s) (QV G eA Q)) :
    wpAny (model X.prog X.w) X.A (call (.ref fa) us ((q.ks.map Str.ofString).zip ws)) (EP X pins σ Q) X.xe s := by
  obtain ⟨dus, dvs, rd, rr, hbt⟩ := kb
  have hsp := pat_sp rr hlp l1 l2 rS rx rw_ h
  have r2 : Vals (permute q.perm (vs ++ (zs ++ dvs))) (permute q.perm (us ++ (ws ++ dus))) := perm_paired (paired_app r (paired_app rz rd)) _
  refine wpAny_call (codeAny_mono (Fok.run X.A X.stack s H ⟨us, (q.ks.map Str.ofString).zip ws⟩ (permute q.perm (us ++ (ws ++ dus))) _ Q (WE W σ) hr I.env0 (hbt s us ws I.kIn (r.length.symm.trans l1) (rz.length.symm.trans l2)) r2 hsp) fun r s' hq => ?_)
  match r, hq with
  | .error e, hq => exact passAt tk σ pins H s e s' I hq
  | .ok (.ret u), hq => exact I.after hq
/-- the look at o.m(..) -/
theorem call_attr {o : Expr} {nm : Str} {A : Around} {E : Value → Shared → Prop} {s : Shared} {env : Env} {M : Model} {Q : Value → Shared → Prop} (hbase : attributeBase o nm env (eval o env) = eval o env) (hform : methodCallForm (es.length + kws.length) (backTo pos (starEach es env)) (backToKw pos (keywordEach kws env)) = true)
    (hline : (apos.endLine == pos.line) = true)
    (h : wpAny M A (eval o env) (fun ov s₁ => wpAny M A (getMethod ov nm (do return (← importBound o env).getD true)) (fun fx s₂ => wpAny M A (callWith pos fx.1 fx.2 (backTo pos (starEach es env)) (backToKw pos (keywordEach kws env))) Q E s₂) E s₁) E s) :
    wpAny M A (eval (.Call (.Attribute o nm apos) es kws pos) env) Q E s := by
  refine PySem.W.methodCall_KW h ?_
  rw [arm_eval_Call, hbase]
  have hpos : methodCallPos true o env apos pos = pure pos := by unfold methodCallPos; simp [hline]
  unfold methodCall calleeOf
  simp only [hform, hpos, if_true, pure_bind]
theorem form_of {as : As} {ks : List Str} (env : Env) (hok : okA ti c as es = true) (hks : kws.map (·.arg) = ks.map some) (hl : es.length + kws.length < 20) : methodCallForm (es.length + kws.length) (backTo pos (starEach es env)) (backToKw pos (keywordEach kws env)) = true := by
  obtain ⟨k1, k2, k3⟩ := kw_all pos env hks
  have h1 : (backTo pos (starEach es env)).all (fun x => !x.1) = true := by
    have := star_all pos env hok
    rw [List.any_eq_false] at this
    rw [List.all_eq_true]
    exact fun x hx => by have := this x hx; simpa using this
  unfold methodCallForm
  rw [h1, k1]
  simp only [Bool.true_and]
  refine decide_eq_true ?_
  split <;> omega
theorem meth_of (hX : XOk ti G Φ k eA c X) {n : Nat} {m : String} {q : Pat} {fx : Fx} {pt : Nat} (hf : ti.fns[q.f]? = some fx) (ho : (n, m) ∈ fx.own) (hp : pt ∈ fx.pats) (hq : G.tb.pats[pt]? = some q) :
    ∃ fa fd, Meth X.K (G.cad n) (Str.ofString m) fa ∧ FnOk X.prog X.w X.K X.mg X.base (L2.CX X.prog X.w) (2 * k) fa fd fx.ps (spOf G (Φ q.f) fx.ps.length) ∧ KB G X.K fd fx.ps q := by
  obtain ⟨fa, fd, hk, hmg, hbi, Fok, Fq, Fk, Fo, Fs⟩ := hX.fns q.f fx hf
  exact ⟨fa, fd, Fo n m ho, Fok, Fk pt q hp hq⟩
theorem not_fld (hX : XOk ti G Φ k eA c X) {n : Nat} {m : String} {ci : ClsI} {fv : List (Str × V)} {l : Nat} (h1 : G.tb.cls[n]? = some ci) (h2 : Str.ofString m ∉ ci.flds.map Str.ofString) (h3 : fv.map (·.1) = (G.nms n).take l) : fv.lookup (Str.ofString m) = none := by
  refine lookup_no fun z => h2 ?_
  rw [h3] at z
  have z := List.mem_of_mem_take z
  rwa [hX.cls.nms n ci h1] at z
end
end GF

set_option Elab.async false
set_option linter.all false
set_option maxRecDepth 100000
set_option autoImplicit false
set_option maxHeartbeats 1000000
namespace GF
open PySem PySem.Spec PyProof.Rows L2

section
variable {β : Type} {G : Ge} {P : Hp} {eA : EA} {W : WX} {F : Hp} {A : List Ad} {σ : St'} {H : Hp} {s : S} {Q : β → S → Hp → List Ad → Hp → Prop}
theorem TV.ofX {m : S → R Sl} {f : Sl → S → R β} (r : RelS G P eA s F A σ H) (h : PstE G P eA W F A σ ((m s).bind f) Q) :
    TV G P eA W m σ H fun u H1 => ∃ x s1 F1 A1, Ext F F1 ∧ A <+: A1 ∧ RelS G P eA s1 F1 A1 σ H1 ∧ RepS G F1 A1 eA x u ∧ PstE G P eA W F1 A1 σ (f x s1) Q :=
  TV.of r h fun x s1 F1 A1 H1 u e1 p1 r1 ru q1 => ⟨x, s1, F1, A1, e1, p1, r1, ru, q1⟩
end
section
variable {X : Cx} {ti : Ti} {G : Ge} {Φ : Nat → FM} {k : Nat} {eA : EA} {c : Cs} {P : Hp} {W : WX} {pos p apos : Pos}
variable {a b : E} {ea eb eo : Expr} {as bs : As} {es : List Expr} {kws : List Keyword}
/-- what stands behind the values of a call -/
def RArgs (G : Ge) (P : Hp) (eA : EA) (W : WX) (A : List Ad) (σ : St') (n m : Nat) (first : List Sl) (firstV : List V) (g : List Sl → List Sl → S → R Sl) (Q : VK) : List V → List V → Hp → Prop := fun vs zs H3 =>
  ∃ st3 F3 A3 xs ws, A <+: A3 ∧ RelS G P eA st3 F3 A3 σ H3 ∧ RepSs G F3 A3 eA (first ++ xs) (firstV ++ vs) ∧ RepSs G F3 A3 eA ws zs ∧ vs.length = n ∧ zs.length = m ∧ PstE G P eA W F3 A3 σ (g xs ws st3) (QV G eA Q)
theorem args_t {first : List Sl} {firstV : List V} {g : List Sl → List Sl → S → R Sl} {st : S} {F : Hp} {A : List Ad} {σ : St'} {H : Hp} {Q : VK} (r : RelS G P eA st F A σ H) (rf : RepSs G F A eA first firstV)
    (h : PstE G P eA W F A σ ((evA G.tb Φ as st).bind fun vs s => (evA G.tb Φ bs s).bind fun ws s => g vs ws s) (QV G eA Q)) :
    TAr G P eA W (evA G.tb Φ as) σ H fun vs H1 => TAr G P eA W (evA G.tb Φ bs) σ H1 fun zs H2 => RArgs G P eA W A σ (lenA as) (lenA bs) first firstV g Q vs zs H2 := by
  refine TAr.of r h fun xs s2 F2 A2 H2 vs hv e2 p2 r2 rxs q2 => TAr.of r2 q2 fun ws s3 F3 A3 H3 zs hw e3 p3 r3 rws q3 => ?_
  exact ⟨s3, F3, A3, xs, ws, p2.trans p3, r3, paired_app (rf.mono (e2.trans e3) (p2.trans p3)) (rxs.mono e3 p3), rws, by rw [← Paired.length rxs, evA_len hv], by rw [← Paired.length rws, evA_len hw], q3⟩
theorem snd_meth {m : String} {nm : Str} {ks : List String} (hX : XOk ti G Φ k eA c X) (tk : Takes X W) (hc : c.calm = true) (ho : PE X eo (TV G P eA W (evE G.tb Φ a))) (hb : baseB eo = true) (hn : nm = Str.ofString m) (hok : okA ti c as es = true)
    (hks : kws.map (·.arg) = ks.map fun z => some (Str.ofString z)) (hline : (apos.endLine == pos.line) = true) (hl : es.length + kws.length < 20) (hlb : lenA bs = ks.length) (ha : PA X es (TAr G P eA W (evA G.tb Φ as))) (hkb : PK X kws (TAr G P eA W (evA G.tb Φ bs))) :
    PE X (.Call (.Attribute eo nm apos) es kws pos) (TV G P eA W (evE G.tb Φ (.meth a m ks as bs))) := by
  subst hn
  have hks' := kw_names ks hks
  refine ⟨fun pins s σ H Q I ⟨st, F, A, r, h⟩ => ?_⟩
  rw [evE] at h
  refine call_attr (base_of hb _ _ _) (form_of X.env hok hks' hl) hline (thn (ho.run pins s σ H _ I (TV.ofX r h)) fun u s1 ⟨v, H1, I1, rv, x, st1, F1, A1, e1, p1, r1, ru, q1⟩ => ?_)
  split at q1
  case h_2 => exact q1.elim
  rename_i cn fs ho'
  split at q1
  case h_2 => exact q1.elim
  rename_i q hq
  obtain ⟨ci, fx, pt, k1, k2, k3, k4, k5, k6, k7, k8, k9, k10⟩ := mq_of hX hq
  obtain ⟨fa, fd, hm, Fok, kb⟩ := meth_of hX k4 k5 k6 k7
  obtain ⟨a', dx, fv, rfl, z1, z2, z3⟩ := obj_at r1.mem ru ho'
  obtain rfl : u = Value.ref a' := rv
  refine getmeth_ok I1 z1 (cls_of hX k1 k2) hm (not_fld hX k1 k3 z2) ?_
  refine args_run (ks := ks.map Str.ofString) hm.kp ha hkb hks' hok I1 (args_t (first := [x]) (firstV := [.ref a']) (g := fun vs ws s => (callF (Φ q.f) (permute q.perm (x :: (vs ++ (ws ++ q.dfl.map .d)))) s).bind fun v s => .ok (rvSl v) s) r1 (.cons ru .nil) q1) fun us vs ws zs s2 H2 I2 rv rz ⟨st3, F3, A3, xs, ys, p3, r3, rx, ry, l1, l2, q3⟩ => ?_
  subst k9
  exact run_pat (us := .ref a' :: us) (vs := .ref a' :: vs) (xs := x :: xs) tk Fok kb k10 ((hX.room hc).mono (Nat.le_succ _)) I2 (.cons rfl rv) rz (by simp [l1, k8]) (by rw [l2, hlb]) r3 rx ry q3

/-! ### a new instance -/
theorem RelM.skip' {M : List D} {F : Hp} {A : List Ad} {H : Hp} {q : Ad} {o : HO} (r : RelM G P M F A H) (h : H q = none) : RelM G P M F A (upd H q o) := by
  obtain ⟨h1, h2, h3⟩ := r.fresh h
  exact r.skip h1 h2 h3
theorem make_sp {q : Pat} {fx : Fx} {dvs : List V} {n : Nat} {ci : ClsI} {x dx : Ad} {vs zs : List V} {xs ws : List Sl} {st : S} {F : Hp} {A : List Ad} {σ : St'} {H : Hp} {Q : VK} (hX : XOk ti G Φ k eA c X) (hci : G.tb.cls[n]? = some ci) (rr : ∀ F, Reps G F q.dfl dvs)
    (hlp : (permute q.perm (List.range (q.n + (q.ks.length + q.dfl.length)))).length = fx.ps.length)
    (l1 : vs.length + 1 = q.n) (l2 : zs.length = q.ks.length) (r : RelS G P eA st F A σ H) (rx : RepSs G F A eA xs vs) (rw_ : RepSs G F A eA ws zs) (hx : H x = none) (hdx : H dx = none) (hne : dx ≠ x)
    (h : PstE G P eA W F A σ (makeF G.tb (Φ q.f) n (fun z => permute q.perm (z :: (xs ++ (ws ++ q.dfl.map .d)))) st) (QV G eA Q)) :
    spOf G (Φ q.f) fx.ps.length (permute q.perm (.ref x :: (vs ++ (zs ++ dvs)))) (upd (upd H dx (.own x)) x (.ins (G.cad n) dx [])) (fun v H2 => v = .non ∧ Q (.ref x) H2) (WE W σ) := by
  -- the new cell
  have hx1 : (upd H dx (.own x)) x = none := by rw [upd_ne (Ne.symm hne)]; exact hx
  have m1 : RelM G P st.M F A (upd H dx (.own x)) := r.mem.skip' hdx
  have m2 : RelM G P st.M F A (upd (upd H dx (.own x)) x (.ins (G.cad n) dx [])) := m1.skip' hx1
  obtain ⟨f1, f2, f3⟩ := m1.fresh hx1
  have m3 : RelM G P (st.M ++ [.obj n []]) F (A ++ [x]) (upd (upd H dx (.own x)) x (.ins (G.cad n) dx [])) := m2.cell f1 f2 f3 ⟨dx, [], [], upd_same, rfl, rfl, .nil⟩
  have pA : A <+: A ++ [x] := List.prefix_append _ _
  have r3 : RelS G P eA ⟨st.ρ, st.M ++ [.obj n []]⟩ F (A ++ [x]) σ (upd (upd H dx (.own x)) x (.ins (G.cad n) dx [])) := r.mono Ext.refl pA m3
  have lenA : st.M.length = A.length := r.mem.len.symm
  have rself : RepS G F (A ++ [x]) eA (.ref st.M.length) (.ref x) := ⟨x, by rw [lenA]; simp, rfl⟩
  have rall : RepSs G F (A ++ [x]) eA (permute q.perm (.ref st.M.length :: (xs ++ (ws ++ q.dfl.map .d)))) (permute q.perm (.ref x :: (vs ++ (zs ++ dvs)))) :=
    perm_paired (.cons rself (paired_app (rx.mono Ext.refl pA) (paired_app (rw_.mono Ext.refl pA) (datas_rep (rr F))))) _
  have ld : dvs.length = q.dfl.length := Reps.length (rr F)
  have lps : (permute q.perm (.ref x :: (vs ++ (zs ++ dvs)))).length = fx.ps.length := by
    rw [← hlp]
    exact perm_len (by simp [l2, ld]; omega) _
  rw [← lps]
  -- behind the cell's dropping
  have back : ∀ {s' : S} {F' : Hp} {H' : Hp}, Ext F F' → RelS G P eA s' F' (A ++ [x]) σ H' → RelM G P (s'.M.take st.M.length) F' A H' := fun {s' F' H'} e r' => by
    have := r'.mem.trunc st.M.length
    rwa [lenA, List.take_left' rfl, ← lenA] at this
  unfold makeF at h
  have h' : PstE G P eA W F (A ++ [x]) σ (callF (Φ q.f) (permute q.perm (.ref st.M.length :: (xs ++ (ws ++ q.dfl.map .d)))) ⟨st.ρ, st.M ++ [.obj n []]⟩) fun v s' F' A' H' => A' = A ++ [x] → v = .d .non ∧ Q (.ref x) H' := by
    revert h
    cases callF (Φ q.f) (permute q.perm (.ref st.M.length :: (xs ++ (ws ++ q.dfl.map .d)))) ⟨st.ρ, st.M ++ [.obj n []]⟩ with
    | stuck => exact fun h => h.elim
    | exc kx fs s' =>
      intro h C d F' A' H' e p r' ex
      have pl : A'.take st.M.length = A := by
        obtain ⟨t, rfl⟩ := p
        rw [List.append_assoc, lenA, List.take_left' rfl]
      have mm := r'.mem.trunc st.M.length
      rw [pl] at mm
      exact h C d F' A H' e (List.prefix_refl _) (r.mono e (List.prefix_refl _) mm) ex
    | ok v s' =>
      intro h F' A' H' e p r' ea
      subst ea
      split at h
      case h_2 heq => cases heq
      case h_3 => exact h.elim
      rename_i s2 heq
      cases heq
      refine ⟨rfl, ?_⟩
      split at h
      case h_2 => exact h.elim
      rename_i c' fs i hm hi
      split at h
      case isFalse => exact h.elim
      rename_i hcond
      obtain ⟨rfl, hx2, hfl⟩ := hcond
      have ea : (A ++ [x])[st.M.length]? = some x := by rw [lenA]; simp
      obtain ⟨fx1, dx', fv, vs', g1, g2, g3, g4⟩ := r'.mem.cells st.M.length x _ ea hm
      subst g3
      have px : P x = none := by
        cases hp : P x with
        | none => rfl
        | some o => exact absurd (by simp) (r'.mem.pf x o hp).2
      have mm := back e r'
      have mf := mm.freeze (p := x) fx1 px f3 g1
      have e' : Ext F' (upd F' x (.ins (G.cad c') dx' fv)) := Ext.new fx1
      have hn : (G.nms c').length = fs.length := by
        rw [hX.cls.nms c' i hi, List.length_map, hfl]
      refine h (upd F' x (.ins (G.cad c') dx' fv)) A H' (e.trans e') (List.prefix_refl _) (r.mono (e.trans e') (List.prefix_refl _) mf) (.ref x) ?_
      refine .obj upd_same ?_ rfl (g4.mono e')
      rw [g2, List.take_of_length_le (by omega)]
  refine call_sp rall r3 h' fun v u s' F' H' R1 e rv q => ?_
  obtain ⟨ev, hq⟩ := q rfl
  subst ev
  refine ⟨?_, hq⟩
  cases rv
  rfl
theorem run_mk {q : Pat} {fx : Fx} {fa : Ad} {fd : FuncData} {n : Nat} {ci : ClsI} {pins : List (Ad × Obj)} {σ : St'} {H : Hp} {s : Shared} {Q : VK} {us ws : List Value} {vs zs : List V} {xs ys : List Sl} {st : S} {F : Hp} {A : List Ad} (hX : XOk ti G Φ k eA c X) (tk : Takes X W)
    (hci : G.tb.cls[n]? = some ci) (M : Mk X.K (G.cad n) fa)
    (Fok : FnOk X.prog X.w X.K X.mg X.base (L2.CX X.prog X.w) (2 * k) fa fd fx.ps (spOf G (Φ q.f) fx.ps.length)) (kb : KB G X.K fd fx.ps q) (hlp : (permute q.perm (List.range (q.n + (q.ks.length + q.dfl.length)))).length = fx.ps.length) (hr : Room (2 * k + 1) X.A)
    (I : Inv X pins σ H s) (r : Vals vs us) (rz : Vals zs ws) (l1 : vs.length + 1 = q.n) (l2 : zs.length = q.ks.length) (rS : RelS G P eA st F A σ H) (rx : RepSs G F A eA xs vs) (rw_ : RepSs G F A eA ys zs)
    (h : PstE G P eA W F A σ (makeF G.tb (Φ q.f) n (fun z => permute q.perm (z :: (xs ++ (ys ++ q.dfl.map .d)))) st) (QV G eA Q)) :
    wpAny (model X.prog X.w) X.A (call (.ref (G.cad n)) us ((q.ks.map Str.ofString).zip ws)) (EP X pins σ Q) X.xe s := by
  obtain ⟨dus, dvs, rd, rr, hbt⟩ := kb
  have hsp := make_sp (x := s.heap.objs.size + 1) (dx := s.heap.objs.size) hX hci rr hlp l1 l2 rS rx rw_ (I.hok.fresh (Nat.le_succ _)) (I.hok.fresh (Nat.le_refl _)) (Nat.ne_of_lt (Nat.lt_succ_self _)) h
  have I2 := Inv.made (C := G.cad n) I
  have r2 : Vals (permute q.perm (V.ref (s.heap.objs.size + 1) :: (vs ++ (zs ++ dvs)))) (permute q.perm (Value.ref (s.heap.objs.size + 1) :: (us ++ (ws ++ dus)))) := perm_paired (R := RelV) (.cons (show RelV (V.ref (s.heap.objs.size + 1)) (Value.ref (s.heap.objs.size + 1)) from rfl) (paired_app r (paired_app rz rd))) _
  have n1 : (Value.ref (s.heap.objs.size + 1) :: us).length = q.n := by
    rw [List.length_cons, ← r.length, l1]
  refine wpAny_call (make_map (f := fa) I.kIn M.makes M.init (beq_iff_eq.mp M.fn) (codeAny_mono (Fok.run _ X.stack _ _ ⟨Value.ref (s.heap.objs.size + 1) :: us, (q.ks.map Str.ofString).zip ws⟩ (permute q.perm (Value.ref (s.heap.objs.size + 1) :: (us ++ (ws ++ dus)))) _ _ (WE W σ)
    (hr.make (G.cad n) us ((q.ks.map Str.ofString).zip ws)) (I2.env0.make (G.cad n) us ((q.ks.map Str.ofString).zip ws)) (hbt _ (Value.ref (s.heap.objs.size + 1) :: us) ws I2.kIn n1 (rz.length.symm.trans l2)) r2 hsp) fun r s' hq' => ?_))
  match r, hq' with
  | .error e, hq' => exact passAt tk σ pins _ _ e s' I2 hq'
  | .ok (.ret u), hq' =>
    obtain ⟨v, H', I3, rv, ev, q3⟩ := I2.after hq'
    subst ev
    exact ⟨rv, ⟨V.ref (s.heap.objs.size + 1), H', I3, rfl, q3⟩⟩
theorem snd_make {n : Nat} {x : Str} {ks : List String} (hX : XOk ti G Φ k eA c X) (tk : Takes X W) (hc : c.calm = true) (hg : glB c x = true) (hx : ti.clsn[n]? = some x) (hok : okA ti c as es = true)
    (hks : kws.map (·.arg) = ks.map fun z => some (Str.ofString z)) (hlb : lenA bs = ks.length) (ha : PA X es (TAr G P eA W (evA G.tb Φ as))) (hkb : PK X kws (TAr G P eA W (evA G.tb Φ bs))) :
    PE X (.Call (.Name x p) es kws pos) (TV G P eA W (evE G.tb Φ (.make n ks as bs))) := by
  obtain ⟨g1, g2⟩ := gl_of hX hg
  have hks' := kw_names ks hks
  refine ⟨fun pins s σ H Q I ⟨st, F, A, r, h⟩ => ?_⟩
  rw [evE] at h
  split at h
  case h_2 => exact h.elim
  rename_i q hq
  obtain ⟨ci, fx, pt, k1, k2, k3, k4, k5, k6, k7, k8, k9, k10⟩ := mq_of hX hq
  obtain ⟨fa, fd, hm, Fok, kb⟩ := meth_of hX k4 k5 k6 k7
  obtain ⟨m1, m2, m3⟩ := hX.cls.mkc n (cls_lt k1) (by rw [isExc_at k1]; exact k2)
  rw [hX.K] at m1 m2
  refine wpAny_Call_Name_kw (ld_glob I g1 (hX.clsn n x hx) ?_ g2)
  refine args_run (ks := ks.map Str.ofString) m2 ha hkb hks' hok I (args_t (first := []) (firstV := []) (g := fun vs ws s => makeF G.tb (Φ q.f) n (fun z => permute q.perm (z :: (vs ++ (ws ++ q.dfl.map .d)))) s) r .nil h) fun us vs ws zs s2 H2 I2 rv rz ⟨st3, F3, A3, xs, ys, p3, r3, rx, ry, l1, l2, q3⟩ => ?_
  subst k9
  exact run_mk (us := us) (vs := vs) (xs := xs) hX tk k1 ⟨m1, hm.at_, hm.fn, m2⟩ Fok kb k10 (hX.room hc) I2 rv rz (by rw [l1, k8]) (by rw [l2, hlb]) r3 rx ry q3

/-! ### a static method -/
theorem snd_stat {pt : Nat} {q : Pat} {fx : Fx} {x nm : Str} {z : Nat × String} (hX : XOk ti G Φ k eA c X) (tk : Takes X W) (hc : c.calm = true) (hg : glB c x = true) (hp : ti.tb.pats[pt]? = some q) (hf : ti.fns[q.f]? = some fx) (hz : z ∈ fx.stat) (hzx : ti.clsn[z.1]? = some x) (hzn : Str.ofString z.2 = nm) (hm : pt ∈ fx.pats) (hl : lenA as = q.n)
    (hks : kws.map (·.arg) = q.ks.map fun z => some (Str.ofString z)) (hpl : (permute q.perm (List.range (q.n + (q.ks.length + q.dfl.length)))).length = fx.ps.length) (hok : okA ti c as es = true) (hline : (apos.endLine == pos.line) = true) (hfew : es.length + kws.length < 20)
    (ha : PA X es (TAr G P eA W (evA G.tb Φ as))) (hb : PK X kws (TAr G P eA W (evA G.tb Φ bs))) (hlb : lenA bs = q.ks.length) :
    PE X (.Call (.Attribute (.Name x p) nm apos) es kws pos) (TV G P eA W (evE G.tb Φ (.callK pt as bs))) := by
  obtain ⟨g1, g2⟩ := gl_of hX hg
  subst hzn
  have hks' := kw_names q.ks hks
  obtain ⟨fa, fd, hk, hmg, hbi, Fok, Fq, Fk, Fo, Fs⟩ := hX.fns q.f fx hf
  obtain ⟨mc, pp, rest, s1, s2, s3, s4, s5⟩ := (Fs z.1 z.2 hz).ex
  have kb := Fk pt q hm (hX.tb ▸ hp)
  refine ⟨fun pins s σ H Q I ⟨st, F, A, r, h⟩ => ?_⟩
  rw [evE] at h
  refine call_attr (base_of rfl _ _ _) (form_of X.env hok hks' hfew) hline (ld_glob I g1 (hX.clsn z.1 x hzx) ?_ g2)
  obtain ⟨mF, hF⟩ := I.fr
  refine PySem.W.method_of_cls hF I.ok.mod.kin s3 (PySem.W.cls_sm hF I.ok.mod.kin s1 s2 s4 s5 rfl ?_)
  have I' : Inv X pins σ H { s with toks := s.toks + 1 } := I.tok _
  refine args_run (first := []) (ks := q.ks.map Str.ofString) hk ha hb hks' hok I' (args_t (first := []) (firstV := []) (Q := Q) (g := fun vs ws s => (callF (Φ q.f) (permute q.perm (vs ++ (ws ++ q.dfl.map .d))) s).bind fun v s => .ok (rvSl v) s) r .nil ?_) fun us vs ws zs s2 H2 I2 rv rz ⟨st3, F3, A3, xs, ys, p3, r3, rx, ry, l1, l2, q3⟩ => ?_
  · have e : G.tb.pats[pt]? = some q := hX.tb ▸ hp
    simp only [e] at h
    exact h
  · exact run_pat (us := us) (vs := vs) (xs := xs) tk Fok kb hpl ((hX.room hc).mono (Nat.le_succ _)) I2 rv rz (by rw [l1, hl]) (by rw [l2, hlb]) r3 rx ry q3

/-! ### operators of one's own -/
theorem cmpBack {X : Cx} {pins : List (Ad × Obj)} {σ : St'} {Q : VK} {u : Value} {s : Shared} (h : EP X pins σ Q u s) : PySem.W.CmpBack (EP X pins σ Q) u s := by
  obtain ⟨v, H, I, r, q⟩ := id h
  cases u <;> first | exact h | skip
  all_goals (cases v <;> first | (cases r; done) | (obtain ⟨t, e⟩ := r; cases e))
theorem own_call {cn : Nat} {m : String} {l : Nat} {q : Pat} {fs : List D} {u : Value} {v : V} {x : Sl} {xs : List Sl} {vs : List V} {us : List Value} {st : S} {F : Hp} {A : List Ad} {σ : St'} {H : Hp} {s : Shared} {pins : List (Ad × Obj)} {Q : VK} (hX : XOk ti G Φ k eA c X) (tk : Takes X W) (hc : c.calm = true)
    (hq : G.tb.mq cn m l [] = some q) (I : Inv X pins σ H s) (r : RelS G P eA st F A σ H) (rx : RepSs G F A eA (x :: xs) (v :: vs)) (hx : x = .d (.obj cn fs)) (rv : RelV v u) (rvs : Vals vs us) (hl : vs.length = l)
    (h : PstE G P eA W F A σ ((callF (Φ q.f) (permute q.perm (x :: (xs ++ q.dfl.map .d))) st).bind fun v s => .ok (rvSl v) s) (QV G eA Q)) :
    ∃ (a : Ad) (fa : Ad) (ox : Obj) (od : Option Obj), u = .ref a ∧ PySem.W.InstAt s.heap a ox (G.cad cn) od ∧ PySem.W.findIn X.K (.ref (G.cad cn)) (Str.ofString m) = some (some (.ref fa)) ∧ PySem.W.isFn X.K (.ref fa) = true ∧ PySem.W.selfFirst X.K (G.cad cn) = true ∧
      wpAny (model X.prog X.w) X.A (call (.ref fa) (.ref a :: us)) (PySem.W.CmpBack (EP X pins σ Q)) X.xe s := by
  obtain ⟨ci, fx, pt, k1, k2, k3, k4, k5, k6, k7, k8, k9, k10⟩ := mq_of hX hq
  obtain ⟨fa, fd, hm, Fok, kb⟩ := meth_of hX k4 k5 k6 k7
  obtain ⟨m1, m2, m3⟩ := hX.cls.mkc cn (cls_lt k1) (by rw [isExc_at k1]; exact k2)
  rw [hX.K] at m3
  have rx' := rx
  cases rx with
  | cons ru rt =>
  subst hx
  obtain ⟨a', dx, fv, rfl, z1, z2, z3⟩ := obj_at (c := cn) (fs := fs) r.mem ru rfl
  obtain rfl : u = Value.ref a' := rv
  obtain ⟨mA, J, _⟩ := ins_get I.hok z1
  obtain ⟨od, J, _⟩ := J.look
  refine ⟨a', fa, _, _, rfl, J, hm.at_, hm.fn, m3, ?_⟩
  have e0 : q.ks.map Str.ofString = [] := by rw [k9]; rfl
  have := run_pat (us := .ref a' :: us) (ws := []) (vs := .ref a' :: vs) (zs := []) (xs := .d (.obj cn fs) :: xs) (ys := []) tk Fok kb k10 ((hX.room hc).mono (Nat.le_succ _)) I (.cons rfl rvs) .nil (by simp [hl, k8]) (by simp [k9]) r rx' .nil (Q := Q) h
  rw [e0] at this
  exact thn this fun _ _ h => cmpBack h
theorem snd_ob {o : Bop} (hX : XOk ti G Φ k eA c X) (tk : Takes X W) (hc : c.calm = true) (ho : ¬ bopM o = "") (ha : PE X ea (TV G P eA W (evE G.tb Φ a))) (hb : PE X eb (TV G P eA W (evE G.tb Φ b))) :
    PE X (.BinOp ea (bopOf o) eb pos) (TV G P eA W (evE G.tb Φ (.ob o a b))) := by
  refine ⟨fun pins s σ H Q I ⟨st, F, A, r, h⟩ => ?_⟩
  rw [evE] at h
  refine wpAny_BinOp (thn (ha.run pins s σ H _ I (TV.ofX r h)) fun u s1 ⟨v, H1, I1, rv, x, st1, F1, A1, e1, p1, r1, ru, q1⟩ => thn (hb.run pins s1 σ H1 _ I1 (TV.ofX r1 q1)) fun w s2 ⟨v2, H2, I2, rv2, y, st2, F2, A2, e2, p2, r2, rw2, q2⟩ => ?_)
  split at q2
  case h_2 => exact q2.elim
  rename_i cn fs cn2 gs _x
  split at q2
  case h_2 => exact q2.elim
  rename_i q hq
  split at q2
  case isFalse => exact q2.elim
  rename_i hcc
  subst hcc
  have ru2 := RepS.mono e2 p2 ru
  obtain ⟨a', fa, ox, od, rfl, J, hat, hfn, hsf, hcall⟩ := own_call (xs := [.d (.obj cn gs)]) (us := [w]) hX tk hc hq I2 r2 (.cons ru2 (.cons rw2 .nil)) rfl rv (.cons rv2 .nil) rfl q2
  obtain ⟨b', dx, fv, rfl, z1, z2, z3⟩ := obj_at (c := cn) (fs := gs) r2.mem rw2 rfl
  obtain rfl : w = Value.ref b' := rv2
  obtain ⟨mB, J', _⟩ := ins_get I2.hok z1
  obtain ⟨od', J', _⟩ := J'.look
  obtain ⟨mF, hF⟩ := I2.fr
  refine PySem.W.binop_K hF I2.ok.mod.kin J J'.type hsf ?_ hfn hcall
  cases o <;> first | exact hat | exact absurd rfl ho
theorem snd_oneg (hX : XOk ti G Φ k eA c X) (tk : Takes X W) (hc : c.calm = true) (ha : PE X ea (TV G P eA W (evE G.tb Φ a))) :
    PE X (.UnaryOp .USub ea pos) (TV G P eA W (evE G.tb Φ (.oneg a))) := by
  refine ⟨fun pins s σ H Q I ⟨st, F, A, r, h⟩ => ?_⟩
  rw [evE] at h
  refine UnaryOp_ (thn (ha.run pins s σ H _ I (TV.ofX r h)) fun u s1 ⟨v, H1, I1, rv, x, st1, F1, A1, e1, p1, r1, ru, q1⟩ => ?_)
  split at q1
  case h_2 => exact q1.elim
  rename_i cn fs
  split at q1
  case h_2 => exact q1.elim
  rename_i q hq
  obtain ⟨a', fa, ox, od, rfl, J, hat, hfn, hsf, hcall⟩ := own_call (xs := []) (us := []) hX tk hc hq I1 r1 (.cons ru .nil) rfl rv .nil rfl q1
  obtain ⟨mF, hF⟩ := I1.fr
  refine PySem.W.ksp_neg hF I1.ok.mod.kin J hat hfn (thn hcall fun u s h => ?_)
  cases u <;> first | exact h | exact h.elim
theorem snd_oeq (hX : XOk ti G Φ k eA c X) (tk : Takes X W) (hc : c.calm = true) (ha : PE X ea (TV G P eA W (evE G.tb Φ a))) (hb : PE X eb (TV G P eA W (evE G.tb Φ b))) (hm : behindInMarks .Eq eb = false) :
    PE X (.Compare ea [.Eq] [eb] pos) (TV G P eA W (evE G.tb Φ (.oeq a b))) := by
  refine ⟨fun pins s σ H Q I ⟨st, F, A, r, h⟩ => ?_⟩
  rw [evE] at h
  refine wpAny_Compare1 (thn (ha.run pins s σ H _ I (TV.ofX r h)) fun u s1 ⟨v, H1, I1, rv, x, st1, F1, A1, e1, p1, r1, ru, q1⟩ => thn (hb.run pins s1 σ H1 _ I1 (TV.ofX r1 q1)) fun w s2 ⟨v2, H2, I2, rv2, y, st2, F2, A2, e2, p2, r2, rw2, q2⟩ => ?_) hm
  split at q2
  case h_2 => exact q2.elim
  rename_i cn fs cn2 gs _x
  split at q2
  case h_2 => exact q2.elim
  rename_i q hq
  split at q2
  case isFalse => exact q2.elim
  rename_i hcc
  have ru2 := RepS.mono e2 p2 ru
  obtain ⟨a', fa, ox, od, rfl, J, hat, hfn, hsf, hcall⟩ := own_call (xs := [.d (.obj cn2 gs)]) (us := [w]) hX tk hc hq I2 r2 (.cons ru2 (.cons rw2 .nil)) rfl rv (.cons rv2 .nil) rfl q2
  obtain ⟨b', dx, fv, rfl, z1, z2, z3⟩ := obj_at (c := cn2) (fs := gs) r2.mem rw2 rfl
  obtain rfl : w = Value.ref b' := rv2
  obtain ⟨mB, J', _⟩ := ins_get I2.hok z1
  obtain ⟨od', J', _⟩ := J'.look
  obtain ⟨mF, hF⟩ := I2.fr
  obtain ⟨ci, fx, pt, k1, k2, _⟩ := mq_of hX hq
  have hnf := hX.cls.nfst cn cn2 (cls_lt k1) hcc.1 (by rw [isExc_at k1]; exact k2) hcc.2
  rw [hX.K] at hnf
  show wpAny _ _ (richCompare .Eq _ _) _ _ _
  exact PySem.W.cmp_K (op := .Eq) (Nat.lt_of_le_of_lt (Nat.le_add_right _ 64) hX.hu) hF I2.ok.mod.kin J J'.type hnf hat hfn hcall
end
end GF

set_option Elab.async false
set_option linter.all false
set_option maxRecDepth 100000
set_option autoImplicit false
set_option maxHeartbeats 1000000
namespace GF
open PySem PySem.Spec PyProof.Rows L2

section
variable {X : Cx} {ti : Ti} {G : Ge} {Φ : Nat → FM} {k : Nat} {eA : EA} {c : Cs} {P : Hp} {W : WX} {pos p apos : Pos}
variable {a b d : E} {ea eb ed e1 : Expr} {as : As} {es : List Expr} {n n2 : N} {en en2 : Expr}

/-! ### lists that are changed -/
theorem mu_slot (m : Mu) : Slot "list" (muNm m) (muId m) ∧ typeOf (.builtin (muId m)) = pure (.type "method_descriptor") := by
  cases m
  · exact ⟨F.slot_list_append, F.type_list_append⟩
  · exact ⟨F.slot_list_pop, F.type_list_pop⟩
  · exact ⟨F.slot_list_pop, F.type_list_pop⟩
  · exact ⟨F.slot_list_extend, F.type_list_extend⟩
theorem snd_mut {m : Mu} {i : Nat} {x : Str} (hX : XOk ti G Φ k eA c X) (hs : slotB c i x = true) (hok : okA ti c as es = true) (ha : PA X es (TAr G P eA W (evA G.tb Φ as))) (hline : (apos.endLine == pos.line) = true) (hl : es.length < 20) :
    PE X (.Call (.Attribute (.Name x p) (muNm m) apos) es [] pos) (TV G P eA W (evE G.tb Φ (.mut m i as))) := by
  obtain ⟨h1, h2, h3, h4⟩ := slot_of hX hs
  obtain ⟨sl, ty⟩ := mu_slot m
  have go : ∀ {σ : St'} {H : Hp} {Q : VK}, TV G P eA W (evE G.tb Φ (.mut m i as)) σ H Q → ∃ (s : S) (F : Hp) (A : List Ad) (j : Nat) (xs : List D) (u : V), RelS G P eA s F A σ H ∧ σ[i]? = some (some u) ∧ RepS G F A eA (.ref j) u ∧ s.M[j]? = some (.lst xs) ∧ tyV X.K "list" u H ∧
      PstE G P eA W F A σ ((evA G.tb Φ as s).bind fun vs s => (match s.M[j]? with
        | some (.lst xs) => (match muS m xs vs with
          | some (v, ys) => .ok (.d v) ⟨s.ρ, s.M.set j (.lst ys)⟩
          | none => .stuck)
        | _ => .stuck)) fun v _ F' A' H' => ∀ u, RepS G F' A' eA v u → Q u H' := by
    intro σ H Q ⟨s, F, A, r, h⟩
    rw [evE] at h
    split at h
    · rename_i j hj
      split at h
      · rename_i xs hm
        obtain ⟨u, hu, ru⟩ := r.get hj
        obtain ⟨q, hq, rfl⟩ := id ru
        obtain ⟨vs, k1, k2⟩ := r.mem.at_ hq hm
        exact ⟨s, F, A, j, xs, _, r, hu, ru, hm, .inl ⟨rfl, vs, SqL.of k1⟩, h⟩
      · exact h.elim
    · exact h.elim
  have fin : ∀ {σ : St'} {H2 : Hp} {Q : VK} {vs : List Sl} {us : List V} {s2 : S} {F2 : Hp} {A2 : List Ad} {j : Nat} {u : V}, RelS G P eA s2 F2 A2 σ H2 → RepS G F2 A2 eA (.ref j) u → RepSs G F2 A2 eA vs us →
      PstE G P eA W F2 A2 σ (match s2.M[j]? with
        | some (.lst xs) => (match muS m xs vs with
          | some (v, ys) => R.ok (.d v) ⟨s2.ρ, s2.M.set j (.lst ys)⟩
          | none => .stuck)
        | _ => .stuck) (fun v _ F' A' H' => ∀ u, RepS G F' A' eA v u → Q u H') → rMu G P eA m u us H2 Q := by
    intro σ H2 Q vs us s2 F2 A2 j u r2 ru rus q2
    split at q2
    · rename_i xs hm
      split at q2
      · rename_i v ys hz
        exact ⟨s2.M, F2, A2, j, xs, ys, vs, v, ru, rus, r2.mem, hm, hz, q2.ansDM r2⟩
      · exact q2.elim
    · exact q2.elim
  cases es with
  | nil =>
    cases as with
    | cons _ _ => simp [okA] at hok
    | nil =>
      refine (pe_bm0 F.plainAttrs_list sl ty (mu_run (G := G) (P := P) (eA := eA)) (pe_var h1 h2 h3 h4) rfl hline).wk fun σ H Q h => ?_
      obtain ⟨s, F, A, j, xs, u, r, hu, ru, hm, ty, q⟩ := go h
      rw [evA, R.bind_ok] at q
      exact ⟨u, hu, ty, fin r ru .nil q⟩
  | cons e1 es =>
    obtain ⟨hst, hpl⟩ := args_plain (as := as) hok X.env pos
    refine (pe_bm F.plainAttrs_list sl ty (mu_run (G := G) (P := P) (eA := eA)) (pe_var h1 h2 h3 h4) ha rfl (few_of X.env hok (by omega)) hline hst hpl).wk fun σ H Q h => ?_
    obtain ⟨s, F, A, j, xs, u, r, hu, ru, hm, ty, q⟩ := go h
    exact ⟨u, hu, ty, TAr.of r q fun vs s2 F2 A2 H2 us hv e2 p2 r2 rus q2 => fin r2 (RepS.mono e2 p2 ru) rus q2⟩

/-! ### isinstance -/
theorem inst_of {a C : Ad} {oe : Obj} {d : Option Ad} {F H : Hp} {pins : List (Ad × Obj)} {σ : St'} {s : Shared} {c : Nat} {fs : List D} (I : Inv X pins σ H s) (hp : (a, oe) ∈ X.pn) (hz : Zc (.ref C) d oe) (hf : ∃ vs, oe.data = .fields vs) (he : ExnR G F c fs C d) (hx : Ext F H) :
    ∃ od, PySem.W.InstAt s.heap a oe C od ∧ (∀ dd fv, d = some dd → F dd = some (.xd fv) → ∃ (ob : Obj) (mA : Str → Option Value), od = some ob ∧ (∀ name, PySem.W.lookIn name ob = some (mA name)) ∧ ∀ n, RelO (fv.lookup n) (mA n)) := by
  obtain ⟨ha, _⟩ := I.pin (a, oe) (List.mem_append_left _ hp)
  obtain ⟨vs, hd⟩ := hf
  rcases he.2 with ⟨_, h2⟩ | ⟨dd, fv, ws, h1, h2, _⟩
  · subst h2
    refine ⟨none, ⟨ha, hz.1, by unfold PySem.W.notCls; rw [hd] <;> rfl, by rw [hz.2]; exact True.intro⟩, fun dd fv z => by cases z⟩
  · subst h1
    have hxd : ObjOk X.prog X.w H s.heap dd (.xd fv) := I.hok dd _ (hx _ _ h2)
    obtain ⟨mA, hns, hr⟩ := hxd
    obtain ⟨od, ho, hl⟩ := lookIn_ns hns
    refine ⟨some od, ⟨ha, hz.1, by unfold PySem.W.notCls; rw [hd] <;> rfl, by rw [hz.2]; exact ho⟩, fun dd' fv' z1 z2 => ?_⟩
    cases z1
    rw [h2] at z2
    cases z2
    exact ⟨od, mA, rfl, hl, hr⟩
def rIsiX (G : Ge) (X : Cx) (eA : EA) : List V → Hp → VK → Prop := fun vs H Q => ∃ (F : Hp) (a C : Ad) (d : Option Ad) (c : Nat) (fs : List D) (y : Ty) (b : Bool) (oe : Obj), vs = [.ref a, tyVal G y] ∧ (a, oe) ∈ X.pn ∧ Zc (.ref C) d oe ∧ (∃ vs, oe.data = .fields vs) ∧ ExnR G F c fs C d ∧ Ext F H ∧
  isiS G.tb [] (.exn c fs) y = some b ∧ (∀ k, y = .cls k → k < G.tb.cls.length) ∧ Q (.bl b) H
theorem isix_run (hK : G.K = X.K) (C : ClsOk G) : CallR X (.builtin "isinstance") (rIsiX G X eA) := by
  intro pins s σ H vs us Q I rus h
  obtain ⟨F, a, Ca, d, c, fs, y, b, oe, rfl, hp, hz, hf, he, hx, hb, hy, q⟩ := h
  obtain ⟨u1, u2, rfl, r1, r2⟩ := vals2 rus
  cases (show u1 = Value.ref a from r1)
  have e2 := (cls_val (G := G) (y := y)).eq r2
  subst e2
  obtain ⟨od, J, _⟩ := inst_of I hp hz hf he hx
  have hb' : (if c < G.tb.cls.length ∧ G.tb.isExc c = true then some (isTag G.tb (.cls c) y) else none) = some b := hb
  split at hb' <;> cases hb'
  rename_i hc
  have E := C.exc c hc.1 hc.2
  rw [← he.1, hK] at E
  have kk : PySem.W.kitOne X.K (.ref Ca) (tyU G y) = some (isTag G.tb (.cls c) y) := by
    rw [← hK, he.1]
    exact kit_of' C (t := .cls c) (by intro c' z; cases z; exact hc.1) hy
  have hcl : (PySem.W.clsIn X.K Ca).isSome = true := by obtain ⟨cd, hc, _⟩ := PySem.W.any_some E.hd; rw [hc]; rfl
  exact PySem.W.kia_one (PySem.W.kitx_exc hcl E.hg E.hk E.hs E.ha E.hn E.ht E.hm) I.kIn J kk (fun z => nomatch z) fun tk => ⟨.bl _, H, I.kept (t' := tk) fun _ _ z => z, rfl, q⟩
theorem CallR.or' {f : Value} {r r' : List V → Hp → VK → Prop} (h : CallR X f r) (h' : CallR X f r') : CallR X f (fun vs H Q => r vs H Q ∨ r' vs H Q) := by
  intro pins s σ H vs us Q I rus q
  rcases q with q | q
  · exact h pins s σ H vs us Q I rus q
  · exact h' pins s σ H vs us Q I rus q
theorem ty_pe {t : Ty} {et : Expr} (hX : XOk ti G Φ k eA c X) (h : tyB ti c t et = true) : PE X et (tC (tyVal G t)) ∧ (∀ k, t = .cls k → k < G.tb.cls.length) ∧ ∀ x p, et ≠ .Starred x p := by
  unfold tyB at h
  split at h
  · rename_i x q
    rw [Bool.and_eq_true] at h
    obtain ⟨g1, g2⟩ := gl_of hX h.1
    refine ⟨?_, ?_, fun _ _ z => by cases z⟩
    · cases t
      case cls j =>
        simp only [Bool.and_eq_true, decide_eq_true_eq] at h
        exact pe_glob g1 (hX.clsn j x h.2.1) rfl g2
      all_goals
        simp only [Bool.and_eq_true, decide_eq_true_eq] at h
        obtain ⟨rfl, hm⟩ := h.2
      · exact pe_bltn g1 (free_of hX hm) PyProof.Rows.boot_int rfl (by decide) g2
      · exact pe_bltn g1 (free_of hX hm) PyProof.Rows.boot_bool rfl (by decide) g2
      · exact pe_bltn g1 (free_of hX hm) PyProof.Rows.boot_str rfl (by decide) g2
      · exact pe_bltn g1 (free_of hX hm) PyProof.Rows.boot_list rfl (by decide) g2
      · exact pe_bltn g1 (free_of hX hm) PyProof.Rows.boot_tuple rfl (by decide) g2
    · rintro j rfl
      simp only [Bool.and_eq_true, decide_eq_true_eq] at h
      rw [hX.tb]; exact h.2.2
  · cases h
theorem snd_isi {t : Ty} {et : Expr} (hX : XOk ti G Φ k eA c X) (hg : glB c "isinstance" = true) (hm : ti.free.contains "isinstance" = true) (hn : ∀ x p, ea ≠ .Starred x p) (ha : PE X ea (TV G P eA W (evE G.tb Φ a))) (ht : tyB ti c t et = true) :
    PE X (.Call (.Name "isinstance" p) [ea, et] [] pos) (TV G P eA W (evE G.tb Φ (.isi a t))) := by
  obtain ⟨g1, g2⟩ := gl_of hX hg
  obtain ⟨t1, t2, t3⟩ := ty_pe hX ht
  have s2 := star_of t3 [] X.env
  have s1 := star_of hn [et] X.env
  refine (pe_callB (CallR.or' (isi_run (P := P) (eA := eA) hX.K hX.cls) (isix_run (eA := eA) hX.K hX.cls)) g1 (free_of hX hm) boot_isinstance (pa_cons ha (pa_cons t1 pa_nil s2) s1) (by decide) g2 s1 (by rw [s2]; rfl)).wk fun σ H Q ⟨s, F, A, r, h⟩ => ?_
  rw [evE] at h
  refine TV.of r h fun x s1 F1 A1 H1 u e1 p1 r1 ru q1 => ?_
  obtain ⟨b, hb, q⟩ := q1.optR
  have q' := q.now r1 _ (.bl _)
  by_cases hx : ∃ c fs, x = .exn c fs
  · obtain ⟨c', fs, rfl⟩ := hx
    obtain ⟨a', C, dd, e3, rfl, he⟩ := ru
    obtain ⟨oe, k1, k2, k3⟩ := hX.exn _ _ _ e3
    exact .inr ⟨F1, a', C, dd, c', fs, t, b, oe, rfl, k1, k2, k3, he, r1.mem.ex, hb, t2, q'⟩
  · exact .inl ⟨s1.M, F1, A1, x, u, t, b, rfl, r1.mem, ru, fun c' fs z => hx ⟨c', fs, z⟩, hb, t2, q'⟩

/-! ### fields of the exception that is handled -/
theorem lookup_at {fv : List (Str × V)} : ∀ {f : Nat} {n : Str} {v : V}, (fv.map (·.1)).Nodup → (fv.map (·.1))[f]? = some n → (fv.map (·.2))[f]? = some v → fv.lookup n = some v := by
  induction fv with
  | nil => intro f n v _ h; simp at h
  | cons y r ih =>
    obtain ⟨m, w⟩ := y
    intro f n v nd h1 h2
    cases f with
    | zero =>
      simp at h1 h2
      subst h1 h2
      simp
    | succ f =>
      simp only [List.map_cons, List.getElem?_cons_succ] at h1 h2
      rw [List.map_cons, List.nodup_cons] at nd
      have ne : (n == m) = false := beq_eq_false_iff_ne.mpr fun z => nd.1 (by subst z; exact List.mem_of_getElem? h1)
      rw [List.lookup_cons, ne]
      exact ih nd.2 h1 h2
theorem snd_efld {cc f : Nat} {nm : Str} {i : ClsI} (hX : XOk ti G Φ k eA c X) (ha : PE X ea (TV G P eA W (evE G.tb Φ a))) (hb : baseB ea = true) (hc : ti.tb.cls[cc]? = some i) (hn : (i.flds.map Str.ofString)[f]? = some nm) (hi : i.exc = true) :
    PE X (.Attribute ea nm pos) (TV G P eA W (evE G.tb Φ (.efld a cc f))) := by
  refine ⟨fun pins s σ H Q I ⟨s0, F, A, r, h⟩ => ?_⟩
  rw [evE] at h
  refine attr_of (base_of hb _ _ _) (thn (ha.run pins s σ H _ I (TV.of (K := fun u H1 => ∃ a' C dd c' fs d F1 oe, u = .ref a' ∧ (a', oe) ∈ X.pn ∧ Zc (.ref C) dd oe ∧ (∃ vs, oe.data = .fields vs) ∧ ExnR G F1 c' fs C dd ∧ Ext F1 H1 ∧ c' = cc ∧ fs[f]? = some d ∧ ∀ v, Rep G F1 d v → Q v H1) r h fun x s1 F1 A1 H1 u e1 p1 r1 ru q1 => ?_)) fun u s1 hh => ?_)
  · split at q1
    · rename_i c' fs
      split at q1
      · obtain ⟨d, hd, q⟩ := q1.optR
        obtain ⟨a', C, dd, e3, rfl, he⟩ := ru
        obtain ⟨oe, k1, k2, k3⟩ := hX.exn _ _ _ e3
        exact ⟨a', C, dd, c', fs, d, F1, oe, rfl, k1, k2, k3, he, r1.mem.ex, by assumption, hd, fun v hv => q.now r1 v hv⟩
      · exact q1.elim
    · exact q1.elim
  · obtain ⟨x, H1, I1, rx, a', C, dd, c', fs, d, F1, oe, rfl, k1, k2, k3, he, hx, ec, hd, q⟩ := hh
    subst ec
    obtain rfl : u = Value.ref a' := rx
    have hlt : c' < G.tb.cls.length := by rw [hX.tb]; exact (List.getElem?_eq_some_iff.mp hc).1
    have hex : G.tb.isExc c' = true := by rw [hX.tb]; unfold Tb.isExc; rw [hc]; exact hi
    obtain ⟨od, J, hj⟩ := inst_of I1 k1 k2 k3 he hx
    rcases he.2 with ⟨h2, _⟩ | ⟨dx, fv, ws, z1, z2, z3, z4, z5⟩
    · subst h2; simp at hd
    · obtain ⟨ob, mA, rfl, hl, hr⟩ := hj dx fv z1 z2
      obtain ⟨v, hv, rv⟩ := z5.get hd
      have hnm : (fv.map (·.1))[f]? = some nm := by rw [z3, hX.cls.nms c' i (by rw [hX.tb]; exact hc)]; exact hn
      have lk : fv.lookup nm = some v := lookup_at (by rw [z3]; exact hX.cls.nd c' hlt) hnm (by rw [z4]; exact hv)
      obtain ⟨uu, hu, ru⟩ := RelO.some_of (v := v) (o := mA nm) (by rw [← lk]; exact hr nm)
      have E := hX.cls.exc c' hlt hex
      have hno := hX.cls.fld c' nm hlt (by rw [← z3]; exact List.mem_of_getElem? hnm)
      rw [← he.1, hX.K] at E hno
      exact HandSPX.exc_get I1.kIn J E.hg E.hk E.hs (PySem.W.findObj_own E.hd hno rfl (by rw [hl, hu])) (handed_of ru) ⟨v, H1, I1.tok _, ru, q v rv⟩
end
end GF

set_option Elab.async false
set_option linter.all false
set_option maxRecDepth 100000
set_option autoImplicit false
set_option maxHeartbeats 1000000
namespace GF
open PySem PySem.Spec PyProof.Rows L2

/-! ### what is walked -/
section
variable {G : Ge} {F : Hp}
theorem walk_list {K : PySem.W.Frag} {a : Ad} {vs : List V} {ds : List D} (h : SqL K F a vs) (r : Reps G F ds vs) : WalkOf G F ds (Itl K a) where
  go := fun i H e hi => ⟨vs, vs[i]'(by rw [r.length]; exact hi), ext_l e h, List.getElem?_eq_getElem _⟩
  stop := fun i H e hi => ⟨vs, ext_l e h, by rw [r.length]; exact hi⟩
  yld := fun i H x H' d e hd ⟨h1, h2⟩ => by
    obtain ⟨v, hv, rv⟩ := r.get hd
    have := h2 vs (ext_l e h)
    rw [hv] at this
    cases this
    exact .inl ⟨h1, rv⟩
theorem walk_tup {K : PySem.W.Frag} {a : Ad} {vs : List V} {ds : List D} (h : SqT K F a vs) (r : Reps G F ds vs) : WalkOf G F ds (Itt K a) where
  go := fun i H e hi => ⟨vs, vs[i]'(by rw [r.length]; exact hi), ext_t e h, List.getElem?_eq_getElem _⟩
  stop := fun i H e hi => ⟨vs, ext_t e h, by rw [r.length]; exact hi⟩
  yld := fun i H x H' d e hd ⟨h1, h2⟩ => by
    obtain ⟨v, hv, rv⟩ := r.get hd
    have := h2 vs (ext_t e h)
    rw [hv] at this
    cases this
    exact .inl ⟨h1, rv⟩
theorem walk_str {t : Tx} (ht : okT t) : WalkOf G F (t.map fun c => D.str [c]) (Its (toS t)) where
  go := fun i H e hi => by
    show i < (toS t).cps.size
    simpa [toS] using hi
  stop := fun i H e hi => by
    show (toS t).cps.size ≤ i
    simpa [toS] using hi
  yld := fun i H x H' d e hd ⟨h1, c, hc, hx⟩ => by
    rw [List.getElem?_map] at hd
    obtain ⟨c', h2, rfl⟩ := Option.map_eq_some_iff.mp hd
    have hc' : t[i]? = some c := by simpa [toS] using hc
    rw [h2] at hc'
    cases hc'
    subst hx
    exact .inl ⟨h1, .str [c] (okT_one ht (List.mem_of_getElem? h2))⟩
theorem walk_rng {lo hi : Int} : WalkOf G F (rangeL lo hi) (Itr lo (hi - lo).toNat) where
  go := fun i H e h => by
    show i < (hi - lo).toNat
    simpa [rangeL] using h
  stop := fun i H e h => by
    show (hi - lo).toNat ≤ i
    simpa [rangeL] using h
  yld := fun i H x H' d e hd ⟨h1, h2⟩ => by
    unfold rangeL at hd
    rw [List.getElem?_map] at hd
    obtain ⟨j, h3, rfl⟩ := Option.map_eq_some_iff.mp hd
    obtain ⟨_, h4⟩ := List.getElem?_eq_some_iff.mp h3
    rw [List.getElem_range] at h4
    subst h4 h2
    exact .inl ⟨h1, .int _⟩
theorem walk_rng3 {a b c : Int} : WalkOf G F (rangeL3 a b c) (Itc a c (rangeLen a b c)) where
  go := fun i H e h => by
    show i < rangeLen a b c
    simpa [rangeL3] using h
  stop := fun i H e h => by
    show rangeLen a b c ≤ i
    simpa [rangeL3] using h
  yld := fun i H x H' d e hd ⟨h1, h2⟩ => by
    unfold rangeL3 at hd
    rw [List.getElem?_map] at hd
    obtain ⟨j, h3, rfl⟩ := Option.map_eq_some_iff.mp hd
    obtain ⟨_, h4⟩ := List.getElem?_eq_some_iff.mp h3
    rw [List.getElem_range] at h4
    subst h4 h2
    exact .inl ⟨h1, .int _⟩
end
theorem rangeLen_eq {a b c : Int} (c0 : c ≠ 0) : Builtin.Range.rangeSize a b c = (rangeLen a b c : Int) := by
  unfold Builtin.Range.rangeSize rangeLen
  by_cases h : 0 < c
  · rw [if_pos h, if_pos h]
    by_cases hab : a < b
    · rw [if_pos hab, if_pos hab]
      have h0 : 0 ≤ (b - a - 1) / c := Int.ediv_nonneg (by omega) (by omega)
      omega
    · rw [if_neg hab, if_neg hab]; rfl
  · rw [if_neg h, if_neg h]
    by_cases hab : b < a
    · rw [if_pos hab, if_pos hab]
      have h0 : 0 ≤ (a - b - 1) / (-c) := Int.ediv_nonneg (by omega) (by omega)
      omega
    · rw [if_neg hab, if_neg hab]; rfl
theorem rangeLen_le {a b c : Int} (c0 : c ≠ 0) (ha : smallI a) (hb : smallI b) : (rangeLen a b c : Int) < 2 ^ 63 := by
  obtain ⟨a1, a2⟩ := ha
  obtain ⟨b1, b2⟩ := hb
  have key : ∀ (x y : Int), 0 ≤ x → 0 < y → x / y ≤ x := fun x y hx hy => Int.ediv_le_self y hx
  unfold rangeLen
  by_cases h : 0 < c
  · rw [if_pos h]
    by_cases hab : a < b
    · rw [if_pos hab]
      have h1 := key (b - a - 1) c (by omega) h
      omega
    · rw [if_neg hab]; decide
  · rw [if_neg h]
    by_cases hab : b < a
    · rw [if_pos hab]
      have h1 := key (a - b - 1) (-c) (by omega) (by omega)
      omega
    · rw [if_neg hab]; decide
theorem rgC_of {a b c : Int} (ha : smallI a) (hb : smallI b) (c0 : c ≠ 0) (hc : c.natAbs < 1073741824) : RgC a b c (rangeLen a b c) := by
  have h1 := rangeLen_eq (a := a) (b := b) c0
  have h2 := rangeLen_le (a := a) (b := b) c0 ha hb
  obtain ⟨a1, a2⟩ := ha
  obtain ⟨b1, b2⟩ := hb
  refine ⟨c0, hc, ?_, h1⟩
  unfold Builtin.Range.small
  rw [h1]
  unfold Builtin.Range.rangeFitsLong
  simp only [Bool.and_eq_true, Bool.or_eq_true, decide_eq_true_eq]
  refine ⟨⟨⟨⟨⟨by omega, by omega⟩, ⟨by omega, by omega⟩⟩, ⟨by omega, by omega⟩⟩, ⟨by omega, by omega⟩⟩, .inr ?_⟩
  split
  · simp only [Bool.and_eq_true, decide_eq_true_eq]; omega
  · simp only [Bool.and_eq_true, decide_eq_true_eq]; omega

section
variable {X : Cx} {ti : Ti} {G : Ge} {Φ : Nat → FM} {k : Nat} {eA : EA} {c : Cs} {P : Hp} {W : WX} {pos p apos : Pos} {tg : Expr}
variable {a b d : E} {ea eb ed e1 : Expr} {as : As} {es : List Expr} {n n2 : N} {en en2 : Expr}
theorem sndI_seq (hX : XOk ti G Φ k eA c X) (ha : PE X ea (TV G P eA W (evE G.tb Φ a))) : PI X tg ea (TIt G P eA W (evI G.tb Φ (.seq a))) := by
  refine ⟨fun pins s σ H Rr I ⟨s0, F, A, r, h⟩ => ?_⟩
  rw [evI] at h
  refine thn (ha.run pins s σ H _ I (TV.of (K := fun u H1 => ∃ x s1 F1 A1 xs, RelS G P eA s1 F1 A1 σ H1 ∧ RepS G F1 A1 eA x u ∧ itemsS s1.M x = some xs ∧ ∀ J, WalkOf G F1 xs J → Rr J H1) r h fun x s1 F1 A1 H1 u e1 p1 r1 ru q1 => ?_)) fun v s1 hh => ?_
  · obtain ⟨xs, hx, q⟩ := q1.optR
    exact ⟨x, s1, F1, A1, xs, r1, ru, hx, fun J w => q.now r1 J F1 Ext.refl r1 w⟩
  · obtain ⟨u, H1, I1, rv, x, s2, F1, A1, xs, r1, ru, hx, q⟩ := hh
    unfold itemsS at hx
    split at hx <;> cases hx
    · obtain ⟨rfl, ot⟩ := Rep.str_ ru
      obtain ⟨t, rfl⟩ := rv
      have q := q _ (walk_str ot)
      cases ha : (toS _).cps.all (· < 128)
      · exact wpAny_pyIter_wide ha (pi_one (tk := s1.toks) I1 _ (turn_str _ _ t "str_iterator" (.inr rfl)) ⟨_, Heap.get?_push_size _ rfl, rfl, rfl⟩ q)
      · exact wpAny_pyIter_ascii ha (pi_one (tk := s1.toks) I1 _ (turn_str _ _ t "str_ascii_iterator" (.inl rfl)) ⟨_, Heap.get?_push_size _ rfl, rfl, rfl⟩ q)
    · obtain ⟨a, vs, rfl, h1, h2⟩ := Rep.lst_ ru
      cases rv
      exact it_list I1 (SqL.of (r1.mem.ex _ _ h1)) (q _ (walk_list (SqL.of h1) h2))
    · obtain ⟨a, vs, rfl, h1, h2⟩ := Rep.tup_ ru
      cases rv
      rw [hX.K] at h1
      exact it_tup I1 (ext_t r1.mem.ex h1) (q _ (walk_tup h1 h2))
    · obtain ⟨a, rfl, h1⟩ := Rep.scr_ ru
      cases rv
      rw [hX.K] at h1
      exact it_list I1 (ext_l r1.mem.ex h1) (q _ (walk_list h1 (Reps.of_ints _)))
theorem sndI_new (hX : XOk ti G Φ k eA c X) (hn : PE X en (TNe G P eA W (evN G.tb Φ n))) : PI X tg en (TIt G P eA W (evI G.tb Φ (.new n))) := by
  refine ⟨fun pins s σ H Rr I ⟨s0, F, A, r, h⟩ => ?_⟩
  rw [evI] at h
  refine thn (hn.run pins s σ H (fun u H1 => ∃ a vs, u = .ref a ∧ H1 a = some (.lst vs) ∧ Rr (Itl X.K a) H1) I ⟨s0, F, A, r, h.imp fun ds s1 F1 A1 H1 e1 p1 r1 q a vs h1 h2 h3 h4 h5 => ?_⟩) fun v s1 hh => ?_
  · have e' : Ext F1 (upd F1 a (.lst vs)) := Ext.new h2
    exact ⟨a, vs, rfl, h1, q _ _ e' (r1.mono' e' (r1.mem.freeze h2 h3 h4 h1)) (walk_list (SqL.of upd_same) (h5.mono e'))⟩
  · obtain ⟨u, H1, I1, rv, a, vs, rfl, h1, q⟩ := hh
    cases rv
    exact it_list I1 (SqL.of h1) q
theorem sndI_rng1 (hX : XOk ti G Φ k eA c X) (hg : glB c "range" = true) (hm : ti.free.contains "range" = true) (hn : ∀ x p, ea ≠ .Starred x p) (ha : PE X ea (TV G P eA W (evE G.tb Φ a))) : PI X tg (.Call (.Name "range" p) [ea] [] pos) (TIt G P eA W (evI G.tb Φ (.rng1 a))) := by
  obtain ⟨g1, g2⟩ := gl_of hX hg
  have s1 := star_of hn [] X.env
  refine (pi_range1 g1 (free_of hX hm) (pa_cons ha pa_nil s1) s1).wk fun σ H Q ⟨s, F, A, r, h⟩ => ?_
  rw [evI] at h
  refine TV.of r h fun x s1 F1 A1 H1 u e1 p1 r1 ru q1 => ?_
  split at q1
  · rename_i i hi
    split at q1
    · rename_i hs
      refine ⟨i, by rw [rep_int hi ru], hs.1, hs.2, q1.now r1 _ F1 Ext.refl r1 ?_⟩
      have := walk_rng (G := G) (F := F1) (lo := 0) (hi := i)
      rw [Int.sub_zero] at this
      exact this
    · exact q1.elim
  · exact q1.elim
theorem sndI_rng2 (hX : XOk ti G Φ k eA c X) (hg : glB c "range" = true) (hm : ti.free.contains "range" = true) (hn : ∀ x p, ea ≠ .Starred x p) (hn2 : ∀ x p, eb ≠ .Starred x p) (ha : PE X ea (TV G P eA W (evE G.tb Φ a))) (hb : PE X eb (TV G P eA W (evE G.tb Φ b))) :
    PI X tg (.Call (.Name "range" p) [ea, eb] [] pos) (TIt G P eA W (evI G.tb Φ (.rng2 a b))) := by
  obtain ⟨g1, g2⟩ := gl_of hX hg
  have t2 := star_of hn2 [] X.env
  have t1 := star_of hn [eb] X.env
  refine (pi_range2 g1 (free_of hX hm) (pa_cons ha (pa_cons hb pa_nil t2) t1) (by rw [t1, t2]; rfl) t2).wk fun σ H Q ⟨s, F, A, r, h⟩ => ?_
  rw [evI] at h
  refine TV.of r h fun x s1 F1 A1 H1 u e1 p1 r1 ru q1 => TV.of r1 q1 fun y s2 F2 A2 H2 w e2 p2 r2 rw' q2 => ?_
  split at q2
  · rename_i i j hi hj
    split at q2
    · rename_i hs
      exact ⟨i, j, by rw [rep_int hi ru, rep_int hj rw'], ⟨hs.1.1, hs.1.2, hs.2.1, hs.2.2⟩, q2.now r2 _ F2 Ext.refl r2 walk_rng⟩
    · exact q2.elim
  · exact q2.elim
theorem sndI_rng3 (hX : XOk ti G Φ k eA c X) (hg : glB c "range" = true) (hm : ti.free.contains "range" = true) (hn : ∀ x p, ea ≠ .Starred x p) (hn2 : ∀ x p, eb ≠ .Starred x p) (hn3 : ∀ x p, ed ≠ .Starred x p) (ha : PE X ea (TV G P eA W (evE G.tb Φ a))) (hb : PE X eb (TV G P eA W (evE G.tb Φ b)))
    (hd : PE X ed (TV G P eA W (evE G.tb Φ d))) : PI X tg (.Call (.Name "range" p) [ea, eb, ed] [] pos) (TIt G P eA W (evI G.tb Φ (.rng3 a b d))) := by
  obtain ⟨g1, g2⟩ := gl_of hX hg
  have t3 := star_of hn3 [] X.env
  have t2 := star_of hn2 [ed] X.env
  have t1 := star_of hn [eb, ed] X.env
  refine (pi_range3 g1 (free_of hX hm) (pa_cons ha (pa_cons hb (pa_cons hd pa_nil t3) t2) t1) t1 (by rw [t2, t3]; rfl)).wk fun σ H Q ⟨s, F, A, r, h⟩ => ?_
  rw [evI] at h
  refine TV.of r h fun x s1 F1 A1 H1 u e1 p1 r1 ru q1 => TV.of r1 q1 fun y s2 F2 A2 H2 w e2 p2 r2 rw' q2 => TV.of r2 q2 fun z s3 F3 A3 H3 v e3 p3 r3 rv q3 => ?_
  split at q3
  · rename_i i j l hi hj hl
    split at q3
    · rename_i hs
      exact ⟨i, j, l, _, by rw [rep_int hi ru, rep_int hj rw', rep_int hl rv], rgC_of hs.1 hs.2.1 hs.2.2.1 hs.2.2.2, q3.now r3 _ F3 Ext.refl r3 walk_rng3⟩
    · exact q3.elim
  · exact q3.elim
end
end GF

set_option Elab.async false
set_option linter.all false
set_option maxRecDepth 100000
set_option autoImplicit false
set_option maxHeartbeats 1000000
namespace GF
open PySem PySem.Spec PyProof.Rows L2

abbrev Wf : WX := fun _ _ _ _ => False
section
variable {X : Cx} {ti : Ti} {G : Ge} {Φ : Nat → FM} {k : Nat} {eA : EA} {c : Cs}
theorem XOk.blk (hX : XOk ti G Φ k eA c X) (s : Shared) (H : Hp) (scope : Scope) (C : Ad) (cl : List (Str × Ad)) (fp : List Ad) : XOk ti G Φ k none { c with sc := relS scope c.sc } (X.blk s H scope (compEnvC scope cl C X.env) fp) where
  K := hX.K
  tb := hX.tb
  N := hX.N
  nd := hX.nd
  sc := by
    show relabel scope X.env = relS scope c.sc
    rw [← hX.sc]
    rfl
  hu := hX.hu
  calm := hX.calm
  room := hX.room
  roomH := hX.roomH
  free := hX.free
  gcd := hX.gcd
  consts := hX.consts
  fns := hX.fns
  cls := hX.cls
  clsn := hX.clsn
  mp := hX.mp
  eAc := fun _ => rfl
  exn := fun a C d z => by cases z
theorem takes_blk {X : Cx} : Takes X Wf := fun u s' ⟨_, _, _, _, _, _, _, _, _, _, _, _, _, _, _, _, w⟩ => w.elim
end
section
variable {G : Ge} {P : Hp} {M : List D} {F : Hp} {A : List Ad} {H : Hp} {eA : EA} {s : S} {σ : St'}
theorem RelM.weakP {D : Ad} {o : HO} (r : RelM G (upd P D o) M F A H) (hP : P D = none) : RelM G P M F A H :=
  have up : ∀ a u, P a = some u → upd P D o a = some u := fun a u h => by rw [upd_ne (ne_of_none h hP)]; exact h
  ⟨r.ex, fun a u h => r.pr a u (up a u h), fun a u h => r.pf a u (up a u h), r.len, r.nd, r.cells⟩
theorem RelM.bump {D : Ad} {o o' : HO} (r : RelM G (upd P D o) M F A H) (hP : P D = none) : RelM G (upd P D o') M F A (upd H D o') := by
  obtain ⟨f1, f2⟩ := r.pf D o upd_same
  refine ⟨r.ex.mut f1, fun a u h => ?_, fun a u h => ?_, r.len, r.nd, fun j a m e1 e2 => ?_⟩
  · by_cases z : a = D
    · subst z; rw [upd_same] at h ⊢; exact h
    · rw [upd_ne z] at h ⊢
      exact r.pr a u (by rw [upd_ne z]; exact h)
  · by_cases z : a = D
    · subst z; exact ⟨f1, f2⟩
    · rw [upd_ne z] at h
      exact r.pf a u (by rw [upd_ne z]; exact h)
  · obtain ⟨h1, h2⟩ := r.cells j a m e1 e2
    have ne : a ≠ D := fun z => f2 (by rw [← z]; exact List.mem_of_getElem? e1)
    rw [upd_ne ne]
    exact ⟨h1, h2⟩
/-- a fresh thing is kept as it is -/
theorem RelM.guardP {D : Ad} {o : HO} (r : RelM G P M F A H) (hH : H D = none) : RelM G (upd P D o) M F A (upd H D o) := by
  obtain ⟨f1, f2, f3⟩ := r.fresh hH
  refine ⟨r.ex.mut f1, r.pr.up, fun a u h => ?_, r.len, r.nd, fun j a m e1 e2 => ?_⟩
  · by_cases z : a = D
    · subst z; exact ⟨f1, f3⟩
    · rw [upd_ne z] at h; exact r.pf a u h
  · obtain ⟨h1, h2⟩ := r.cells j a m e1 e2
    have ne : a ≠ D := fun z => f3 (by rw [← z]; exact List.mem_of_getElem? e1)
    rw [upd_ne ne]
    exact ⟨h1, h2⟩
theorem RelS.unset (r : RelS G P eA s F A σ H) (i : Nat) : RelS G P eA ⟨s.ρ.set i none, s.M⟩ F A σ H := by
  refine ⟨r.mem, fun j v e => r.slots j v ?_, by simp [r.slen]⟩
  by_cases z : j = i
  · subst z
    by_cases hj : j < s.ρ.length
    · have e' : (s.ρ.set j none)[j]? = some (some v) := e
      rw [List.getElem?_set_self hj] at e'
      cases e'
    · have e' : (s.ρ.set j none)[j]? = some (some v) := e
      rw [List.getElem?_eq_none (by simp; omega)] at e'
      cases e'
  · have e' : (s.ρ.set i none)[j]? = some (some v) := e
    rw [List.getElem?_set_ne (Ne.symm z)] at e'
    exact e'
theorem compGo_M {t : S → R Bool} {e : S → R Sl} {i : Nat} {σ0 : List (Option Sl)} {xs acc : List D} {s : S} : compGo t e i σ0 xs acc s = compGo t e i σ0 xs acc ⟨σ0, s.M⟩ := by
  cases xs <;> rfl
theorem wipe1 {σ : St'} {i : Nat} {u : V} : wipe ((wipe σ [i]).set i (some u)) [i] = wipe σ [i] := by
  show ((σ.set i none).set i (some u)).set i none = σ.set i none
  rw [List.set_set, List.set_set]
theorem wipe2 {σ : St'} {i : Nat} {u : V} : (wipe σ [i]).set i (some u) = σ.set i (some u) := by
  show (σ.set i none).set i (some u) = _
  rw [List.set_set]

theorem lc_read {W : WX} {mi : S → R (List D)} {t : S → R Bool} {e : S → R Sl} {i : Nat} {tt : TT} {te : TE} {Q : VK}
    (htt : ∀ P σ H K, TBo G P none Wf t σ H K → tt σ H K) (hte : ∀ P σ H K, TV G P none Wf e σ H K → te σ H K)
    (h : TNe G P none W (fun s => (mi s).bind fun xs s => if i < s.ρ.length then compGo t e i (s.ρ.set i none) xs [] s else .stuck) σ H Q) : tLc (TIt G P none W mi) (gName i) tt te [i] σ H Q := by
  obtain ⟨s, F, A, r, h⟩ := h
  refine ⟨s, F, A, r, h.split.imp fun xs s1 F1 A1 H1 e1 p1 r1 q1 J F2 e2 r2 hw D hD => ?_⟩
  split at q1
  case isFalse => exact q1.elim
  rename_i hi
  obtain ⟨f1, f2, f3⟩ := r2.mem.fresh hD
  have q2 := PstE.mono e2 (List.prefix_refl _) q1
  clear q1
  let Iv : Nat → Hp → Prop := fun j H => j ≤ xs.length ∧ ∃ acc av Mj F' A', Ext F2 F' ∧ A1 <+: A' ∧ RelS G (upd P D (.lst av)) none ⟨s1.ρ, Mj⟩ F' A' σ H ∧ Reps G F' acc av ∧
    PstE G P none W F' A' σ (compGo t e i (s1.ρ.set i none) (xs.drop j) acc ⟨s1.ρ.set i none, Mj⟩) fun ds x F' A' H' => ∀ (a : Ad) (vs : List V), H' a = some (.lst vs) → F' a = none → P a = none → a ∉ A' → Reps G F' ds vs → Q (.ref a) H'
  refine ⟨fun j m H => m = xs.length - j ∧ Iv j H, ⟨xs.length, by simp, Nat.zero_le _, [], [], s1.M, F2, A1, Ext.refl, List.prefix_refl _, r2.mono Ext.refl (List.prefix_refl _) (r2.mem.guardP hD), .nil, by rw [List.drop_zero, ← compGo_M]; exact q2⟩, ?_⟩
  rintro j m H2 ⟨rfl, hj, acc, av, Mj, F3, A3, e3, p3, r3, ra, q3⟩
  have ex3 : Ext F2 H2 := e3.trans r3.mem.ex
  obtain ⟨g1, g2⟩ := r3.mem.pf D _ upd_same
  by_cases hlt : j < xs.length
  case neg =>
    have ej : j = xs.length := by omega
    subst ej
    refine .inl ⟨hw.stop _ H2 ex3 (Nat.le_refl _), ?_⟩
    rw [List.drop_length, compGo] at q3
    exact q3 F3 A3 H2 Ext.refl (List.prefix_refl _) ((r3.mono Ext.refl (List.prefix_refl _) (r3.mem.weakP f2)).unset i) D av (r3.mem.pr D _ upd_same) g1 f2 g2 ra
  refine .inr ⟨hw.go j H2 ex3 hlt, fun H' => Iv (j + 1) H', fun H' p => ⟨xs.length - (j + 1), by omega, rfl, p⟩, fun x H3 y => ?_⟩
  have hd : xs[j]? = some xs[j] := List.getElem?_eq_getElem hlt
  have ed : xs.drop j = xs[j] :: xs.drop (j + 1) := List.drop_eq_getElem_cons hlt
  rw [ed, compGo] at q3
  -- the item is bound
  have bound : ∃ F4, Ext F3 F4 ∧ RelS G (upd P D (.lst av)) none ⟨s1.ρ, Mj⟩ F4 A3 σ H3 ∧ Rep G F4 xs[j] x := by
    rcases hw.yld j H2 x H3 xs[j] ex3 hd y with ⟨rfl, rx⟩ | ⟨p, vs, ds, hp, rfl, rfl, ed, rd⟩
    · exact ⟨F3, Ext.refl, r3, rx.mono e3⟩
    · have fp : F3 p = none := r3.mem.ex.back hp
      refine ⟨upd F3 p (.tup vs), Ext.new fp, r3.mono (Ext.new fp) (List.prefix_refl _) (r3.mem.laid hp), ?_⟩
      rw [ed]
      exact .tup (.inl (.inl upd_same)) (rd.mono (e3.trans (Ext.new fp)))
  obtain ⟨F4, e4, r4, rx⟩ := bound
  have r4' : RelS G (upd P D (.lst av)) none ⟨(s1.ρ.set i none).set i (some (.d xs[j])), Mj⟩ F4 A3 ((wipe σ [i]).set i (some x)) H3 := by
    rw [wipe2, List.set_set]
    exact r4.put (v := .d xs[j]) rx hi
  have q4 := PstE.mono e4 (List.prefix_refl _) q3
  clear q3
  refine ⟨wipe1, htt (upd P D (.lst av)) _ _ _ ⟨_, F4, A3, r4', ?_⟩⟩
  cases ht : t ⟨(s1.ρ.set i none).set i (some (.d xs[j])), Mj⟩ with
  | exc _ _ _ => rw [ht] at q4; exact q4.elim
  | stuck => rw [ht] at q4; exact q4.elim
  | ok b s3 =>
    rw [ht] at q4
    cases b with
    | false =>
      intro F5 A5 H5 e5 p5 r5
      show Iv (j + 1) H5
      exact ⟨by omega, acc, av, s3.M, F5, A5, (e3.trans e4).trans e5, p3.trans p5, r4.mono e5 p5 r5.mem, ra.mono (e4.trans e5), by rw [← compGo_M]; exact PstE.mono e5 p5 q4⟩
    | true =>
      intro F5 A5 H5 e5 p5 r5
      refine hte (upd P D (.lst av)) _ _ _ ⟨s3, F5, A5, r5, ?_⟩
      cases he : e s3 with
      | exc _ _ _ => simp only [he] at q4; exact q4.elim
      | stuck => simp only [he] at q4; exact q4.elim
      | ok v s4 =>
        simp only [he] at q4
        cases v with
        | ref _ => exact q4.elim
        | exn _ _ => exact q4.elim
        | d y =>
          simp only at q4
          split at q4
          case isFalse => exact q4.elim
          rename_i hl
          intro F6 A6 H6 e6 p6 r6 u ru
          refine ⟨av, r6.mem.pr D _ upd_same, ?_, by omega, acc ++ [y], av ++ [u], s4.M, F6, A6, ((e3.trans e4).trans e5).trans e6, (p3.trans p5).trans p6, r4.mono (e5.trans e6) (p5.trans p6) (r6.mem.bump f2), (ra.mono ((e4.trans e5).trans e6)).append (.cons ru .nil), ?_⟩
          · rw [ra.length, ← LN_eq]; exact hl
          · rw [← compGo_M]; exact PstE.mono (e5.trans e6) (p5.trans p6) q4
end
section
variable {G : Ge} {P : Hp} {σ : St'} {H : Hp}
/-- a walk over a cell -/
def TIC (G : Ge) (P : Hp) (eA : EA) (src : Nat) (f : S → Nat → List D → Prop) : TI := fun σ H R => ∃ s F A j xs, RelS G P eA s F A σ H ∧ s.get src = some (.ref j) ∧ s.M[j]? = some (.lst xs) ∧ f s j xs ∧ ∀ a, A[j]? = some a → R (Itl G.K a) H
theorem keeps_at {j : Nat} {all M : List D} (h : keeps j all M = true) : M[j]? = some (.lst all) := by
  unfold keeps at h
  split at h
  · rename_i ys hy
    rw [hy, sameL_eq ys all h]
  · cases h
theorem compGoC_M {e : S → R Sl} {i j : Nat} {all σ0 xs acc} {s : S} : compGoC e i j all σ0 xs acc s = compGoC e i j all σ0 xs acc ⟨σ0, s.M⟩ := by
  cases xs <;> rfl
theorem lc_readC {W : WX} {K : PySem.W.Frag} {e : S → R Sl} {i src : Nat} {te : TE} {Q : VK} (hK : G.K = K) (hte : ∀ P σ H K, TV G P none Wf e σ H K → te σ H K)
    (h : TNe G P none W (fun s => (match s.get src with
      | some (.ref j) => (match s.M[j]? with
        | some (.lst xs) => if i < s.ρ.length then compGoC e i j xs (s.ρ.set i none) xs [] s else .stuck
        | _ => .stuck)
      | _ => .stuck)) σ H Q) : tLc (TIC G P none src fun _ _ _ => True) (gName i) tYes te [i] σ H Q := by
  obtain ⟨s1, F2, A1, r2, q2⟩ := h
  dsimp only at q2
  split at q2
  case h_2 => exact q2.elim
  rename_i jc hg
  split at q2
  case h_2 => exact q2.elim
  rename_i xs hm0
  split at q2
  case isFalse => exact q2.elim
  rename_i hi
  refine ⟨s1, F2, A1, jc, xs, r2, hg, hm0, True.intro, fun ac hac D hD => ?_⟩
  obtain ⟨f1, f2, f3⟩ := r2.mem.fresh hD
  let Iv : Nat → Hp → Prop := fun j H => j ≤ xs.length ∧ ∃ acc av Mj F' A', Ext F2 F' ∧ A1 <+: A' ∧ RelS G (upd P D (.lst av)) none ⟨s1.ρ, Mj⟩ F' A' σ H ∧ Reps G F' acc av ∧
    PstE G P none W F' A' σ (compGoC e i jc xs (s1.ρ.set i none) (xs.drop j) acc ⟨s1.ρ.set i none, Mj⟩) fun ds x F' A' H' => ∀ (a : Ad) (vs : List V), H' a = some (.lst vs) → F' a = none → P a = none → a ∉ A' → Reps G F' ds vs → Q (.ref a) H'
  refine ⟨fun j m H => m = xs.length - j ∧ Iv j H, ⟨xs.length, by simp, Nat.zero_le _, [], [], s1.M, F2, A1, Ext.refl, List.prefix_refl _, r2.mono Ext.refl (List.prefix_refl _) (r2.mem.guardP hD), .nil, by rw [List.drop_zero, ← compGoC_M]; exact q2⟩, ?_⟩
  rintro j m H2 ⟨rfl, hj, acc, av, Mj, F3, A3, e3, p3, r3, ra, q3⟩
  obtain ⟨g1, g2⟩ := r3.mem.pf D _ upd_same
  have ac3 : A3[jc]? = some ac := pre_get p3 hac
  by_cases hlt : j < xs.length
  case neg =>
    have ej : j = xs.length := by omega
    subst ej
    rw [List.drop_length, compGoC] at q3
    split at q3
    case isFalse => exact q3.elim
    rename_i hkp
    obtain ⟨vs', k1, k2⟩ := r3.mem.at_ ac3 (keeps_at hkp)
    refine .inl ⟨⟨vs', SqL.of k1, by rw [k2.length]; exact Nat.le_refl _⟩, ?_⟩
    exact q3 F3 A3 H2 Ext.refl (List.prefix_refl _) ((r3.mono Ext.refl (List.prefix_refl _) (r3.mem.weakP f2)).unset i) D av (r3.mem.pr D _ upd_same) g1 f2 g2 ra
  have hd : xs[j]? = some xs[j] := List.getElem?_eq_getElem hlt
  have ed : xs.drop j = xs[j] :: xs.drop (j + 1) := List.drop_eq_getElem_cons hlt
  rw [ed, compGoC] at q3
  split at q3
  case isFalse => exact q3.elim
  rename_i hkp
  obtain ⟨vs', k1, k2⟩ := r3.mem.at_ ac3 (keeps_at hkp)
  refine .inr ⟨⟨vs', vs'[j]'(by rw [k2.length]; exact hlt), SqL.of k1, List.getElem?_eq_getElem _⟩, fun H' => Iv (j + 1) H', fun H' p => ⟨xs.length - (j + 1), by omega, rfl, p⟩, fun x H3 y => ?_⟩
  obtain ⟨y1, y2⟩ := y
  subst y1
  have rx : Rep G F3 xs[j] x := by
    obtain ⟨v, hv, rv⟩ := k2.get hd
    have := y2 vs' (SqL.of k1)
    rw [hv] at this
    cases this
    exact rv
  have r4' : RelS G (upd P D (.lst av)) none ⟨(s1.ρ.set i none).set i (some (.d xs[j])), Mj⟩ F3 A3 ((wipe σ [i]).set i (some x)) H3 := by
    rw [wipe2, List.set_set]
    exact r3.put (v := .d xs[j]) rx hi
  refine ⟨wipe1, ?_⟩
  simp only [tYes, if_true]
  refine hte (upd P D (.lst av)) _ _ _ ⟨_, F3, A3, r4', ?_⟩
  cases he : e ⟨(s1.ρ.set i none).set i (some (.d xs[j])), Mj⟩ with
  | exc _ _ _ => simp only [he] at q3; exact q3.elim
  | stuck => simp only [he] at q3; exact q3.elim
  | ok v s4 =>
    simp only [he] at q3
    cases v with
    | ref _ => exact q3.elim
    | exn _ _ => exact q3.elim
    | d y =>
      simp only at q3
      split at q3
      case isFalse => exact q3.elim
      rename_i hl
      intro F6 A6 H6 e6 p6 r6 u ru
      refine ⟨av, r6.mem.pr D _ upd_same, ?_, by omega, acc ++ [y], av ++ [u], s4.M, F6, A6, e3.trans e6, p3.trans p6, r3.mono e6 p6 (r6.mem.bump f2), (ra.mono e6).append (.cons ru .nil), ?_⟩
      · rw [ra.length, ← LN_eq]; exact hl
      · rw [← compGoC_M]; exact PstE.mono e6 p6 q3
end
section
variable {X : Cx} {ti : Ti} {G : Ge} {Φ : Nat → FM} {k : Nat} {eA : EA} {c : Cs} {P : Hp} {W : WX} {pos p : Pos}
theorem sndI_cell {src : Nat} {y : Str} {tg : Expr} (hX : XOk ti G Φ k eA c X) (hs : slotB c src y = true) : PI X tg (.Name y p) (TIC G P eA src fun _ _ _ => True) := by
  obtain ⟨h1, h2, h3, h4⟩ := slot_of hX hs
  refine ⟨fun pins s σ H Rr I ⟨st, F, A, j, xs, r, hg, hm, _, q⟩ => ?_⟩
  obtain ⟨w, hw, rw'⟩ := r.get hg
  obtain ⟨a, ha, rfl⟩ := rw'
  obtain ⟨vs, k1, k2⟩ := r.mem.at_ ha hm
  refine thn ((pe_var h1 h2 h3 h4).run pins s σ H (fun u H1 => u = .ref a ∧ H1 = H) I ⟨_, hw, rfl, rfl⟩) fun v s1 ⟨u, H1, I1, rv, e1, e2⟩ => ?_
  subst e1 e2
  cases rv
  have := q a ha
  rw [hX.K] at this
  exact it_list I1 (SqL.of k1) this
def foldB : Expr → Bool
  | .Set _ _ _ => false
  | _ => true
theorem fold_of {e : Expr} (h : foldB e = true) (env : Env) : ∀ x, foldedSetIterable e env x = pure x := by
  intro x
  cases e <;> first | rfl | cases h
theorem okI_fold {it : It} {e : Expr} (h : okI ti c it e = true) : foldB e = true := by
  have keyN : ∀ {a : N} {e : Expr}, okN ti c a e = true → foldB e = true := by
    intro a e h
    cases e <;> first | rfl | (cases a <;> simp [okN] at h)
  have keyE : ∀ {a : E} {e : Expr}, okE ti c a e = true → foldB e = true := by
    intro a e h
    cases e <;> first | rfl | skip
    cases a <;> first | (simp [okE] at h; done) | (exact keyN (show okN ti c _ _ = true by simpa [okE] using h))
  cases it with
  | seq a => exact keyE (show okE ti c a e = true by simpa [okI] using h)
  | new n => exact keyN (show okN ti c n e = true by simpa [okI] using h)
  | rng1 a => cases e <;> first | rfl | simp [okI] at h
  | rng2 a b => cases e <;> first | rfl | simp [okI] at h
  | rng3 a b d => cases e <;> first | rfl | simp [okI] at h
  | revS a => cases e <;> first | rfl | simp [okI] at h
  | revL a => cases e <;> first | rfl | simp [okI] at h
/-- what a comprehension's parts must say -/
structure LcOk (ti : Ti) (c : Cs) (X : Cx) (x : Str) (i : Nat) (sc : Scope) : Prop where
  blk : BlkOk X.N X.env.scope sc [(x, i)]
  loc : sc.names.lookup x = some .local
theorem lcOk_of {x : Str} {i : Nat} {sc : Scope} (hX : XOk ti G Φ k eA c X) (h1 : blkC c.N c.sc sc [(x, i)] = true) (h2 : decide (sc.names.lookup x = some .local) = true) : LcOk ti c X x i sc :=
  ⟨by rw [hX.N, hX.sc]; exact blkOk_by h1, of_decide_eq_true h2⟩
theorem lc_pg {x : Str} {i : Nat} {sc : Scope} {px : Pos} (hX : XOk ti G Φ k eA c X) (L : LcOk ti c X x i sc) (s : Shared) (H : Hp) (C : Ad) (cl : List (Str × Ad)) (fp : List Ad) : PG (X.blk s H sc (compEnvC sc cl C X.env) fp) (.Name x px) (gName i) := by
  have hl : (compEnvC sc cl C X.env).scope.names.lookup x = some .local := lookup_relS_keep (sc := X.env.scope) (by intro z; cases z) L.loc
  exact pg_name hX.nd (L.blk.ix (x, i) List.mem_cons_self) (.inl hl) (.inr hl)
end
end GF

set_option Elab.async false
set_option linter.all false
set_option maxRecDepth 100000
set_option autoImplicit false
set_option maxHeartbeats 1000000
namespace GF
open PySem PySem.Spec PyProof.Rows L2

/-! ### from the end; odd places -/
theorem okT_rev {t : Tx} (h : okT t) : okT t.reverse := ⟨by rw [List.length_reverse]; exact h.1, fun c hc => h.2 c (List.mem_reverse.mp hc)⟩
theorem toS_rev (t : Tx) : (⟨(toS t).cps.toList.reverse.toArray⟩ : Str) = toS t.reverse := by simp [toS]
theorem Reps.reverse {G : Ge} {F : Hp} : ∀ {ds : List D} {vs : List V}, Reps G F ds vs → Reps G F ds.reverse vs.reverse
  | _, _, .nil => .nil
  | _, _, .cons r t => by
    rw [List.reverse_cons, List.reverse_cons]
    exact (Reps.reverse t).append (.cons r .nil)
theorem Reps.odds {G : Ge} {F : Hp} : ∀ {ds : List D} {vs : List V}, Reps G F ds vs → Reps G F (GF.odds ds) (GF.odds vs)
  | _, _, .nil => .nil
  | _, _, .cons _ .nil => .nil
  | _, _, .cons _ (.cons r t) => .cons r (Reps.odds t)
section
variable {X : Cx} {ti : Ti} {G : Ge} {Φ : Nat → FM} {k : Nat} {eA : EA} {c : Cs} {P : Hp} {W : WX} {pos p p1 p2 p3 : Pos} {k1 k2 : Nat} {tg : Expr}
variable {a : E} {ea : Expr}
theorem snd_rev (hX : XOk ti G Φ k eA c X) (ha : PE X ea (TV G P eA W (evE G.tb Φ a))) : PE X (.Subscript ea (.Slice none none (some (.UnaryOp .USub (.Constant (.int 1) k1 p1) p2)) p3) pos) (TV G P eA W (evE G.tb Φ (.rev a))) := by
  refine (pe_rvA ha).wk fun σ H Q ⟨s, F, A, r, h⟩ => ?_
  rw [evE] at h
  refine TV.of r h fun x s1 F1 A1 H1 u e1 p1 r1 ru q1 => ?_
  obtain ⟨d, hd, q⟩ := q1.optR
  have q' := q.ansD r1
  unfold revD at hd
  split at hd <;> cases hd
  · obtain ⟨rfl, ot⟩ := Rep.str_ ru
    refine .inl ⟨_, rfl, by rw [toS_len]; exact ot.1, ?_⟩
    rw [toS_rev]
    exact q'.now r1.mem (.str _ (okT_rev ot))
  · obtain ⟨a', vs, rfl, h1, h2⟩ := Rep.tup_ ru
    exact .inr ⟨a', vs, rfl, hX.K ▸ ext_t r1.mem.ex h1, fun p hp => q'.tup r1.mem h2.reverse hp⟩
theorem sndN_rev (hX : XOk ti G Φ k eA c X) (ha : PE X ea (TV G P eA W (evE G.tb Φ a))) : PE X (.Subscript ea (.Slice none none (some (.UnaryOp .USub (.Constant (.int 1) k1 p1) p2)) p3) pos) (TNe G P eA W (evN G.tb Φ (.rev a))) := by
  refine (pe_rvL ha).wk fun σ H Q ⟨s, F, A, r, h⟩ => ?_
  rw [evN] at h
  refine TV.of r h fun x s1 F1 A1 H1 u e1 p1 r1 ru q1 => ?_
  obtain ⟨d, hd, q⟩ := q1.optR
  obtain ⟨ds, hs, rfl⟩ := Option.map_eq_some_iff.mp hd
  obtain ⟨p, vs, rfl, h1, h2⟩ := lstS_rep hX.K hs ru r1.mem
  exact ⟨p, vs, rfl, h1, fun p hp => (q.ansN r1).new r1.mem h2.reverse hp⟩
theorem sndN_odd (hX : XOk ti G Φ k eA c X) (ha : PE X ea (TV G P eA W (evE G.tb Φ a))) : PE X (.Subscript ea (.Slice (some (.Constant (.int 1) k1 p1)) none (some (.Constant (.int 2) k2 p2)) p3) pos) (TNe G P eA W (evN G.tb Φ (.odd a))) := by
  refine (pe_odd ha).wk fun σ H Q ⟨s, F, A, r, h⟩ => ?_
  rw [evN] at h
  refine TV.of r h fun x s1 F1 A1 H1 u e1 p1 r1 ru q1 => ?_
  obtain ⟨d, hd, q⟩ := q1.optR
  obtain ⟨ds, hs, rfl⟩ := Option.map_eq_some_iff.mp hd
  obtain ⟨p, vs, rfl, h1, h2⟩ := lstS_rep hX.K hs ru r1.mem
  exact ⟨p, vs, rfl, h1, fun p hp => (q.ansN r1).new r1.mem h2.odds hp⟩
end
section
variable {G : Ge} {F : Hp}
theorem walk_rs {t : Tx} (ht : okT t) : WalkOf G F (t.reverse.map fun c => D.str [c]) (ItRs (toS t)) where
  go := fun i H e hi => by
    show i < (toS t).cps.size
    simpa [toS] using hi
  stop := fun i H e hi => by
    show (toS t).cps.size ≤ i
    simpa [toS] using hi
  yld := fun i H x H' d e hd ⟨h1, c, hc, hx⟩ => by
    rw [List.getElem?_map] at hd
    obtain ⟨c', h2, rfl⟩ := Option.map_eq_some_iff.mp hd
    have hi : i < t.length := by
      have := (List.getElem?_eq_some_iff.mp h2).1
      simpa using this
    rw [List.getElem?_reverse hi] at h2
    have hc' : t[t.length - 1 - i]? = some c := by simpa [toS] using hc
    rw [h2] at hc'
    cases hc'
    subst hx
    exact .inl ⟨h1, .str [c] (okT_one ht (List.mem_of_getElem? h2))⟩
theorem walk_rl {K : PySem.W.Frag} {a : Ad} {vs : List V} {ds : List D} (h : SqL K F a vs) (r : Reps G F ds vs) : WalkOf G F ds.reverse (Itv K a vs.length) where
  go := fun i H e hi => by
    rw [List.length_reverse] at hi
    have := r.length
    exact ⟨by omega, vs, vs[vs.length - 1 - i]'(by omega), ext_l e h, List.getElem?_eq_getElem _⟩
  stop := fun i H e hi => by
    rw [List.length_reverse] at hi
    have := r.length
    show vs.length ≤ i
    omega
  yld := fun i H x H' d e hd ⟨h1, h2⟩ => by
    have hl := r.length
    have hi : i < ds.length := by
      have := (List.getElem?_eq_some_iff.mp hd).1
      simpa using this
    rw [List.getElem?_reverse hi] at hd
    obtain ⟨v, hv, rv⟩ := r.get hd
    have := h2 vs (ext_l e h)
    rw [hl, hv] at this
    cases this
    exact .inl ⟨h1, rv⟩
theorem walk_rt {K : PySem.W.Frag} {a : Ad} {vs : List V} {ds : List D} (h : SqT K F a vs) (r : Reps G F ds vs) : WalkOf G F ds.reverse (RT.ItvT K a vs.length) where
  go := fun i H e hi => by
    rw [List.length_reverse] at hi
    have := r.length
    exact ⟨by omega, vs, vs[vs.length - 1 - i]'(by omega), ext_t e h, List.getElem?_eq_getElem _⟩
  stop := fun i H e hi => by
    rw [List.length_reverse] at hi
    have := r.length
    show vs.length ≤ i
    omega
  yld := fun i H x H' d e hd ⟨h1, h2⟩ => by
    have hl := r.length
    have hi : i < ds.length := by
      have := (List.getElem?_eq_some_iff.mp hd).1
      simpa using this
    rw [List.getElem?_reverse hi] at hd
    obtain ⟨v, hv, rv⟩ := r.get hd
    have := h2 vs (ext_t e h)
    rw [hl, hv] at this
    cases this
    exact .inl ⟨h1, rv⟩
end
section
variable {X : Cx} {ti : Ti} {G : Ge} {Φ : Nat → FM} {k : Nat} {eA : EA} {c : Cs} {P : Hp} {W : WX} {pos p : Pos} {tg : Expr}
variable {a : E} {ea : Expr}
theorem sndI_revS (hX : XOk ti G Φ k eA c X) (hg : glB c "reversed" = true) (hm : ti.free.contains "reversed" = true) (hn : ∀ x p, ea ≠ .Starred x p) (ha : PE X ea (TV G P eA W (evE G.tb Φ a))) : PI X tg (.Call (.Name "reversed" p) [ea] [] pos) (TIt G P eA W (evI G.tb Φ (.revS a))) := by
  obtain ⟨g1, g2⟩ := gl_of hX hg
  refine (pi_revS g1 (free_of hX hm) ha (star_of hn [] X.env)).wk fun σ H Q ⟨s, F, A, r, h⟩ => ?_
  rw [evI] at h
  refine TV.of r h fun x s1 F1 A1 H1 u e1 p1 r1 ru q1 => ?_
  obtain ⟨xs, hx, q⟩ := q1.optR
  unfold revT at hx
  split at hx <;> cases hx
  obtain ⟨rfl, ot⟩ := Rep.str_ ru
  exact ⟨_, rfl, by rw [toS_len]; exact ot.1, q.now r1 _ F1 Ext.refl r1 (walk_rs ot)⟩
theorem sndI_revL (hX : XOk ti G Φ k eA c X) (hg : glB c "reversed" = true) (hm : ti.free.contains "reversed" = true) (hn : ∀ x p, ea ≠ .Starred x p) (ha : PE X ea (TV G P eA W (evE G.tb Φ a))) : PI X tg (.Call (.Name "reversed" p) [ea] [] pos) (TIt G P eA W (evI G.tb Φ (.revL a))) := by
  obtain ⟨g1, g2⟩ := gl_of hX hg
  refine (RT.pi_revA g1 (free_of hX hm) ha (star_of hn [] X.env)).wk fun σ H Q ⟨s, F, A, r, h⟩ => ?_
  rw [evI] at h
  refine TV.of r h fun x s1 F1 A1 H1 u e1 p1 r1 ru q1 => ?_
  obtain ⟨xs, hx, q⟩ := q1.optR
  unfold revI at hx
  split at hx <;> cases hx
  · obtain ⟨a', vs, rfl, h1, h2⟩ := Rep.lst_ ru
    exact ⟨a', vs, rfl, .inl ⟨SqL.of (r1.mem.ex _ _ h1), q.now r1 _ F1 Ext.refl r1 (walk_rl (SqL.of h1) h2)⟩⟩
  · obtain ⟨a', vs, rfl, h1, h2⟩ := Rep.tup_ ru
    rw [hX.K] at h1
    exact ⟨a', vs, rfl, .inr ⟨ext_t r1.mem.ex h1, q.now r1 _ F1 Ext.refl r1 (walk_rt h1 h2)⟩⟩
  · obtain ⟨a', rfl, h1⟩ := Rep.scr_ ru
    rw [hX.K] at h1
    refine ⟨a', _, rfl, .inl ⟨ext_l r1.mem.ex h1, q.now r1 _ F1 Ext.refl r1 ?_⟩⟩
    have := walk_rl (G := G) h1 (Reps.of_ints _)
    rw [List.map_reverse]
    exact this
end
end GF

set_option Elab.async false
set_option linter.all false
set_option maxRecDepth 100000
set_option autoImplicit false
set_option maxHeartbeats 1000000
namespace GF
open PySem PySem.Spec PyProof.Rows L2

section
variable {ti : Ti} {G : Ge} {Φ : Nat → FM} {k : Nat}
theorem tbo_any {X : Cx} {e : Expr} {m : S → R Bool} (h : ∀ P, PT X e (TBo G P none Wf m)) : PT X e (fun σ H K => ∃ P, TBo G P none Wf m σ H K) := ⟨fun pins s σ H Q I ⟨P, q⟩ => (h P).run pins s σ H Q I q⟩
theorem tv_any {X : Cx} {e : Expr} {m : S → R Sl} (h : ∀ P, PE X e (TV G P none Wf m)) : PE X e (fun σ H K => ∃ P, TV G P none Wf m σ H K) := ⟨fun pins s σ H Q I ⟨P, q⟩ => (h P).run pins s σ H Q I q⟩
mutual
theorem sndE : ∀ (a : E) {X : Cx} {c : Cs} {eA : EA} {P : Hp} {W : WX} {e : Expr}, XOk ti G Φ k eA c X → Takes X W → okE ti c a e = true → PE X e (TV G P eA W (evE G.tb Φ a))
  | .var i, X, c, eA, P, W, e, hX, tk, h => by
    unfold okE at h
    split at h
    · exact snd_var hX h
    · cases h
  | .cst d, X, c, eA, P, W, e, hX, tk, h => by
    unfold okE at h
    split at h
    · exact snd_cst h
    · cases h
  | .glo i, X, c, eA, P, W, e, hX, tk, h => by
    unfold okE at h
    split at h
    · rw [Bool.and_eq_true, decide_eq_true_eq] at h
      exact snd_glo hX h.1 h.2
    · cases h
  | .bin o a b, X, c, eA, P, W, e, hX, tk, h => by
    unfold okE at h
    split at h
    · simp only [Bool.and_eq_true, decide_eq_true_eq] at h
      obtain ⟨rfl, h1, h2⟩ := h
      exact snd_bin hX (sndE a hX tk h1) (sndE b hX tk h2)
    · cases h
  | .neg a, X, c, eA, P, W, e, hX, tk, h => by
    unfold okE at h
    split at h
    · exact snd_neg (sndE a hX tk h)
    · cases h
  | .cmp o a b, X, c, eA, P, W, e, hX, tk, h => by
    unfold okE at h
    split at h
    · simp only [Bool.and_eq_true, decide_eq_true_eq, Bool.not_eq_true'] at h
      obtain ⟨rfl, h1, h2, h3⟩ := h
      exact snd_cmp hX (sndE a hX tk h1) (sndE b hX tk h2) h3
    · cases h
  | .cmp2 o1 o2 a b d, X, c, eA, P, W, e, hX, tk, h => by
    unfold okE at h
    split at h
    · simp only [Bool.and_eq_true, decide_eq_true_eq, Bool.not_eq_true'] at h
      obtain ⟨rfl, rfl, h1, h2, h3, h4⟩ := h
      exact snd_cmp2 hX (sndE a hX tk h1) (sndE b hX tk h2) (sndE d hX tk h3) h4
    · cases h
  | .vand a b, X, c, eA, P, W, e, hX, tk, h => by
    unfold okE at h
    split at h
    · rw [Bool.and_eq_true] at h
      exact snd_and (sndE a hX tk h.1) (sndE b hX tk h.2)
    · cases h
  | .vor a b, X, c, eA, P, W, e, hX, tk, h => by
    unfold okE at h
    split at h
    · rw [Bool.and_eq_true] at h
      exact snd_or (sndE a hX tk h.1) (sndE b hX tk h.2)
    · cases h
  | .one a, X, c, eA, P, W, e, hX, tk, h => by
    unfold okE at h
    split at h
    · exact snd_one (sndE a hX tk h)
    · cases h
  | .vnot a, X, c, eA, P, W, e, hX, tk, h => by
    unfold okE at h
    split at h
    · exact snd_not (sndE a hX tk h)
    · cases h
  | .ife t a b, X, c, eA, P, W, e, hX, tk, h => by
    unfold okE at h
    split at h
    · simp only [Bool.and_eq_true] at h
      exact snd_ife (sndT t hX tk h.1) (sndE a hX tk h.2.1) (sndE b hX tk h.2.2)
    · cases h
  | .ix a i, X, c, eA, P, W, e, hX, tk, h => by
    unfold okE at h
    split at h
    · rw [Bool.and_eq_true] at h
      exact snd_ix hX (sndE a hX tk h.1) (sndE i hX tk h.2) (plainIx_of (ok_notStar h.2).2)
    · cases h
  | .sl a lo hi, X, c, eA, P, W, e, hX, tk, h => by
    unfold okE at h
    split at h
    · simp only [Bool.and_eq_true] at h
      exact snd_sl hX (sndE a hX tk h.1) (sndP lo hX tk h.2.1) (sndP hi hX tk h.2.2)
    · cases h
  | .tup as, X, c, eA, P, W, e, hX, tk, h => by
    unfold okE at h
    split at h
    · rw [Bool.and_eq_true, decide_eq_true_eq] at h
      exact snd_tup (by rw [← okA_len h.1]; exact h.2) (sndA as hX tk h.1)
    · cases h
  | .frz n, X, c, eA, P, W, e, hX, tk, h => by
    unfold okE at h
    exact snd_frz (sndN n hX tk h)
  | .call f as, X, c, eA, P, W, e, hX, tk, h => by
    unfold okE at h
    split at h
    · simp only [Bool.and_eq_true] at h
      obtain ⟨h1, h2, h3⟩ := h
      split at h3
      · rename_i fx hf
        simp only [Bool.and_eq_true, decide_eq_true_eq] at h3
        exact snd_call hX tk h1 hf h3.1 h3.2.1 h3.2.2 h2 (sndA as hX tk h2)
      · cases h3
    · cases h
  | .callK p as bs, X, c, eA, P, W, e, hX, tk, h => by
    unfold okE at h
    split at h
    · simp only [Bool.and_eq_true] at h
      obtain ⟨h0, h1, h2, h3, h4⟩ := h
      split at h4
      · rename_i q hp
        simp only [Bool.and_eq_true, decide_eq_true_eq] at h4
        obtain ⟨h5, h6, h8, h7⟩ := h4
        split at h7
        · rename_i fx hf
          simp only [Bool.and_eq_true, decide_eq_true_eq] at h7
          exact snd_callK hX tk h0 h1 hp hf h7.1 (by simpa using h7.2.1) h6 h5 h7.2.2 h2 (sndA as hX tk h2) (sndK bs hX tk h3) h8
        · cases h7
      · cases h4
    · simp only [Bool.and_eq_true] at h
      obtain ⟨h0, h1, h2, h3, h33, h4⟩ := h
      split at h4
      · rename_i q hp
        simp only [Bool.and_eq_true, decide_eq_true_eq] at h4
        obtain ⟨h5, h6, h8, h7⟩ := h4
        split at h7
        · rename_i fx hf
          simp only [Bool.and_eq_true, decide_eq_true_eq] at h7 h33
          obtain ⟨z, z1, z2⟩ := List.any_eq_true.mp h7.1
          simp only [Bool.and_eq_true, decide_eq_true_eq] at z2
          exact snd_stat hX tk h0 h1 hp hf z1 z2.1 z2.2 (by simpa using h7.2.1) h6 h5 h7.2.2 h2 h33.1 h33.2 (sndA as hX tk h2) (sndK bs hX tk h3) h8
        · cases h7
      · cases h4
    · cases h
  | .blt b as, X, c, eA, P, W, e, hX, tk, h => by
    unfold okE at h
    split at h
    · simp only [Bool.and_eq_true, decide_eq_true_eq] at h
      obtain ⟨h1, h2, h3, h4, h5⟩ := h
      exact snd_blt hX h1 h3 h4 h5 h2 (sndA as hX tk h2)
    · cases h
  | .bm m o as, X, c, eA, P, W, e, hX, tk, h => by
    unfold okE at h
    split at h
    · simp only [Bool.and_eq_true, Bool.or_eq_true, decide_eq_true_eq] at h
      obtain ⟨rfl, ⟨h1, h2⟩, h3, h4, h5, h6⟩ := h
      exact snd_bm hX h1 (sndE o hX tk h2) h3 (sndA as hX tk h3) h4 h5 h6
    · cases h
  | .mut m i as, X, c, eA, P, W, e, hX, tk, h => by
    unfold okE at h
    split at h
    · simp only [Bool.and_eq_true, decide_eq_true_eq] at h
      obtain ⟨rfl, h1, h2, h3, h4⟩ := h
      exact snd_mut hX h1 h2 (sndA as hX tk h2) h3 h4
    · cases h
  | .isi a t, X, c, eA, P, W, e, hX, tk, h => by
    unfold okE at h
    split at h
    · simp only [Bool.and_eq_true, decide_eq_true_eq] at h
      obtain ⟨rfl, h1, h2, h3, h4⟩ := h
      exact snd_isi hX h1 h2 (ok_notStar h3).1 (sndE a hX tk h3) h4
    · cases h
  | .efld a cc f, X, c, eA, P, W, e, hX, tk, h => by
    unfold okE at h
    split at h
    · simp only [Bool.and_eq_true] at h
      obtain ⟨h1, h2, h3⟩ := h
      split at h3
      · rename_i i hi
        rw [Bool.and_eq_true, decide_eq_true_eq] at h3
        exact snd_efld hX (sndE a hX tk h1) h2 hi h3.1 h3.2
      · cases h3
    · cases h
  | .rev a, X, c, eA, P, W, e, hX, tk, h => by
    unfold okE at h
    split at h
    · exact snd_rev hX (sndE a hX tk h)
    · cases h
  | .fld a x, X, c, eA, P, W, e, hX, tk, h => by
    unfold okE at h
    split at h
    · simp only [Bool.and_eq_true, decide_eq_true_eq] at h
      exact snd_fld hX (sndE a hX tk h.1) h.2.1 h.2.2
    · cases h
  | .meth a m ks as bs, X, c, eA, P, W, e, hX, tk, h => by
    unfold okE at h
    split at h
    · simp only [Bool.and_eq_true, decide_eq_true_eq] at h
      obtain ⟨h0, h1, h2, h3, h4, h5, h6, h7, h8, h9⟩ := h
      exact snd_meth hX tk h0 (sndE a hX tk h1) h2 h3 h4 h6 h7 h8 h9 (sndA as hX tk h4) (sndK bs hX tk h5)
    · cases h
  | .make n ks as bs, X, c, eA, P, W, e, hX, tk, h => by
    unfold okE at h
    split at h
    · simp only [Bool.and_eq_true, decide_eq_true_eq] at h
      obtain ⟨h0, h1, h2, h3, h4, h5, h6⟩ := h
      exact snd_make hX tk h0 h1 h2 h3 h5 h6 (sndA as hX tk h3) (sndK bs hX tk h4)
    · cases h
  | .ob o a b, X, c, eA, P, W, e, hX, tk, h => by
    unfold okE at h
    split at h
    · simp only [Bool.and_eq_true, decide_eq_true_eq, Bool.not_eq_true', decide_eq_false_iff_not] at h
      obtain ⟨h0, rfl, h1, h2, h3⟩ := h
      exact snd_ob hX tk h0 h3 (sndE a hX tk h1) (sndE b hX tk h2)
    · cases h
  | .oneg a, X, c, eA, P, W, e, hX, tk, h => by
    unfold okE at h
    split at h
    · rw [Bool.and_eq_true] at h
      exact snd_oneg hX tk h.1 (sndE a hX tk h.2)
    · cases h
  | .oeq a b, X, c, eA, P, W, e, hX, tk, h => by
    unfold okE at h
    split at h
    · simp only [Bool.and_eq_true, Bool.not_eq_true'] at h
      obtain ⟨h0, h1, h2, h3⟩ := h
      exact snd_oeq hX tk h0 (sndE a hX tk h1) (sndE b hX tk h2) h3
    · cases h
theorem sndT : ∀ (t : T) {X : Cx} {c : Cs} {eA : EA} {P : Hp} {W : WX} {e : Expr}, XOk ti G Φ k eA c X → Takes X W → okT' ti c t e = true → PT X e (TBo G P eA W (evT G.tb Φ t))
  | .val a, X, c, eA, P, W, e, hX, tk, h => by
    rw [okT', Bool.and_eq_true] at h
    exact sndT_val h.2 (sndE a hX tk h.1)
  | .tru a, X, c, eA, P, W, e, hX, tk, h => by
    rw [okT', Bool.and_eq_true] at h
    exact sndT_tru hX h.2 (sndE a hX tk h.1)
  | .cmp o a b, X, c, eA, P, W, e, hX, tk, h => by
    unfold okT' at h
    split at h
    · simp only [Bool.and_eq_true, decide_eq_true_eq, Bool.not_eq_true'] at h
      obtain ⟨rfl, h1, h2, h3⟩ := h
      exact sndT_cmp hX (sndE a hX tk h1) (sndE b hX tk h2) h3
    · cases h
  | .cmp2 o1 o2 a b d, X, c, eA, P, W, e, hX, tk, h => by
    unfold okT' at h
    split at h
    · simp only [Bool.and_eq_true, decide_eq_true_eq, Bool.not_eq_true'] at h
      obtain ⟨rfl, rfl, h1, h2, h3, h4⟩ := h
      exact sndT_cmp2 hX (sndE a hX tk h1) (sndE b hX tk h2) (sndE d hX tk h3) h4
    · cases h
  | .tand a b, X, c, eA, P, W, e, hX, tk, h => by
    unfold okT' at h
    split at h
    · rw [Bool.and_eq_true] at h
      exact sndT_and (sndT a hX tk h.1) (sndT b hX tk h.2)
    · cases h
  | .tor a b, X, c, eA, P, W, e, hX, tk, h => by
    unfold okT' at h
    split at h
    · rw [Bool.and_eq_true] at h
      exact sndT_or (sndT a hX tk h.1) (sndT b hX tk h.2)
    · cases h
  | .one a, X, c, eA, P, W, e, hX, tk, h => by
    unfold okT' at h
    split at h
    · exact sndT_one (sndT a hX tk h)
    · cases h
  | .tnot a, X, c, eA, P, W, e, hX, tk, h => by
    unfold okT' at h
    split at h
    · exact sndT_not (sndT a hX tk h)
    · cases h
theorem sndN : ∀ (n : N) {X : Cx} {c : Cs} {eA : EA} {P : Hp} {W : WX} {e : Expr}, XOk ti G Φ k eA c X → Takes X W → okN ti c n e = true → PE X e (TNe G P eA W (evN G.tb Φ n))
  | .disp as, X, c, eA, P, W, e, hX, tk, h => by
    unfold okN at h
    split at h
    · rw [Bool.and_eq_true, decide_eq_true_eq] at h
      exact sndN_disp (by rw [← okA_len h.1]; exact h.2) (sndA as hX tk h.1)
    · cases h
  | .cat a b, X, c, eA, P, W, e, hX, tk, h => by
    unfold okN at h
    split at h
    · rw [Bool.and_eq_true] at h
      exact sndN_cat (sndN a hX tk h.1) (sndN b hX tk h.2)
    · cases h
  | .catE a b, X, c, eA, P, W, e, hX, tk, h => by
    unfold okN at h
    split at h
    · rw [Bool.and_eq_true] at h
      exact sndN_catE (sndE a hX tk h.1) (sndN b hX tk h.2)
    · cases h
  | .catF a b, X, c, eA, P, W, e, hX, tk, h => by
    unfold okN at h
    split at h
    · rw [Bool.and_eq_true] at h
      exact sndN_catF (sndN a hX tk h.1) (sndE b hX tk h.2)
    · cases h
  | .rep a b, X, c, eA, P, W, e, hX, tk, h => by
    unfold okN at h
    split at h
    · rw [Bool.and_eq_true] at h
      exact sndN_rep (sndN a hX tk h.1) (sndE b hX tk h.2)
    · cases h
  | .comp i it t a, X, c, eA, P, W, e, hX, tk, h => by
    unfold okN at h
    split at h
    · rename_i elt x px src g sc pos
      simp only [Bool.and_eq_true] at h
      obtain ⟨hc, h1, h2, h3, h4, h5⟩ := h
      have he := hX.eAc hc
      subst he
      have L := lcOk_of hX h4 h5
      refine (pe_lc (own := [(x, i)]) (hX.calm hc) hX.nd (sndI it (P := P) hX tk h1) L.blk (lc_pg hX L) (fun s H C cl fp => pts_one (tbo_any fun P' => sndT t (P := P') (hX.blk s H sc C cl fp) takes_blk h2))
        (fun s H C cl fp => tv_any fun P' => sndE a (P := P') (hX.blk s H sc C cl fp) takes_blk h3) (fold_of (okI_fold h1) _)).wk fun σ H Q ⟨s, F, A, r, h⟩ => ?_
      rw [evN] at h
      exact lc_read (fun P σ H K q => ⟨P, q⟩) (fun P σ H K q => ⟨P, q⟩) ⟨s, F, A, r, h⟩
    · cases h
  | .comp0 i it a, X, c, eA, P, W, e, hX, tk, h => by
    unfold okN at h
    split at h
    · rename_i elt x px src sc pos
      simp only [Bool.and_eq_true] at h
      obtain ⟨hc, h1, h3, h4, h5⟩ := h
      have he := hX.eAc hc
      subst he
      have L := lcOk_of hX h4 h5
      refine (pe_lc (own := [(x, i)]) (hX.calm hc) hX.nd (sndI it (P := P) hX tk h1) L.blk (lc_pg hX L) (fun s H C cl fp => pts_nil)
        (fun s H C cl fp => tv_any fun P' => sndE a (P := P') (hX.blk s H sc C cl fp) takes_blk h3) (fold_of (okI_fold h1) _)).wk fun σ H Q ⟨s, F, A, r, h⟩ => ?_
      rw [evN] at h
      exact lc_read (t := fun s => .ok true s) (fun P σ H K ⟨s, F, A, r, q⟩ => q.now r) (fun P σ H K q => ⟨P, q⟩) ⟨s, F, A, r, h⟩
    · cases h
  | .compC i src a, X, c, eA, P, W, e, hX, tk, h => by
    unfold okN at h
    split at h
    · rename_i elt x px y py sc pos
      simp only [Bool.and_eq_true] at h
      obtain ⟨hc, h1, h3, h4, h5⟩ := h
      have he := hX.eAc hc
      subst he
      have L := lcOk_of hX h4 h5
      refine (pe_lc (own := [(x, i)]) (hX.calm hc) hX.nd (sndI_cell (P := P) hX h1) L.blk (lc_pg hX L) (fun s H C cl fp => pts_nil)
        (fun s H C cl fp => tv_any fun P' => sndE a (P := P') (hX.blk s H sc C cl fp) takes_blk h3) (fold_of rfl _)).wk fun σ H Q ⟨s, F, A, r, h⟩ => ?_
      rw [evN] at h
      exact lc_readC hX.K (fun P σ H K q => ⟨P, q⟩) ⟨s, F, A, r, h⟩
    · cases h
  | .ofSeq a, X, c, eA, P, W, e, hX, tk, h => by
    unfold okN at h
    split at h
    · simp only [Bool.and_eq_true, decide_eq_true_eq] at h
      obtain ⟨rfl, h1, h2, h3⟩ := h
      exact sndN_list hX h1 h2 (ok_notStar h3).1 (sndE a hX tk h3)
    · cases h
  | .cut a lo hi, X, c, eA, P, W, e, hX, tk, h => by
    unfold okN at h
    split at h
    · simp only [Bool.and_eq_true] at h
      exact sndN_cut hX (sndE a hX tk h.1) (sndP lo hX tk h.2.1) (sndP hi hX tk h.2.2)
    · cases h
  | .call f as, X, c, eA, P, W, e, hX, tk, h => by
    unfold okN at h
    split at h
    · simp only [Bool.and_eq_true] at h
      obtain ⟨h1, h2, h3⟩ := h
      split at h3
      · rename_i fx hf
        simp only [Bool.and_eq_true, decide_eq_true_eq] at h3
        exact sndN_call hX tk h1 hf h3.1 h3.2.1 h3.2.2 h2 (sndA as hX tk h2)
      · cases h3
    · cases h
  | .rev a, X, c, eA, P, W, e, hX, tk, h => by
    unfold okN at h
    split at h
    · exact sndN_rev hX (sndE a hX tk h)
    · cases h
  | .odd a, X, c, eA, P, W, e, hX, tk, h => by
    unfold okN at h
    split at h
    · exact sndN_odd hX (sndE a hX tk h)
    · cases h
theorem sndP : ∀ (o : GF.P) {X : Cx} {c : Cs} {eA : EA} {P : Hp} {W : WX} {e : Option Expr}, XOk ti G Φ k eA c X → Takes X W → okP ti c o e = true → PO X e (TPo G P eA W (evP G.tb Φ o))
  | .none, X, c, eA, P, W, e, hX, tk, h => by
    unfold okP at h
    split at h
    · exact sndP_none
    · cases h
  | .some a, X, c, eA, P, W, e, hX, tk, h => by
    unfold okP at h
    split at h
    · exact sndP_some (sndE a hX tk h)
    · cases h
theorem sndI : ∀ (it : GF.It) {X : Cx} {c : Cs} {eA : EA} {P : Hp} {W : WX} {e tg : Expr}, XOk ti G Φ k eA c X → Takes X W → okI ti c it e = true → PI X tg e (TIt G P eA W (evI G.tb Φ it))
  | .seq a, X, c, eA, P, W, e, tg, hX, tk, h => by
    unfold okI at h
    exact sndI_seq hX (sndE a hX tk h)
  | .new n, X, c, eA, P, W, e, tg, hX, tk, h => by
    unfold okI at h
    exact sndI_new hX (sndN n hX tk h)
  | .rng1 a, X, c, eA, P, W, e, tg, hX, tk, h => by
    unfold okI at h
    split at h
    · simp only [Bool.and_eq_true, decide_eq_true_eq] at h
      obtain ⟨rfl, h1, h2, h3⟩ := h
      exact sndI_rng1 hX h1 h2 (ok_notStar h3).1 (sndE a hX tk h3)
    · cases h
  | .rng2 a b, X, c, eA, P, W, e, tg, hX, tk, h => by
    unfold okI at h
    split at h
    · simp only [Bool.and_eq_true, decide_eq_true_eq] at h
      obtain ⟨rfl, h1, h2, h3, h4⟩ := h
      exact sndI_rng2 hX h1 h2 (ok_notStar h3).1 (ok_notStar h4).1 (sndE a hX tk h3) (sndE b hX tk h4)
    · cases h
  | .rng3 a b d, X, c, eA, P, W, e, tg, hX, tk, h => by
    unfold okI at h
    split at h
    · simp only [Bool.and_eq_true, decide_eq_true_eq] at h
      obtain ⟨rfl, h1, h2, h3, h4, h5⟩ := h
      exact sndI_rng3 hX h1 h2 (ok_notStar h3).1 (ok_notStar h4).1 (ok_notStar h5).1 (sndE a hX tk h3) (sndE b hX tk h4) (sndE d hX tk h5)
    · cases h
  | .revS a, X, c, eA, P, W, e, tg, hX, tk, h => by
    unfold okI at h
    split at h
    · simp only [Bool.and_eq_true, decide_eq_true_eq] at h
      obtain ⟨rfl, h1, h2, h3⟩ := h
      exact sndI_revS hX h1 h2 (ok_notStar h3).1 (sndE a hX tk h3)
    · cases h
  | .revL a, X, c, eA, P, W, e, tg, hX, tk, h => by
    unfold okI at h
    split at h
    · simp only [Bool.and_eq_true, decide_eq_true_eq] at h
      obtain ⟨rfl, h1, h2, h3⟩ := h
      exact sndI_revL hX h1 h2 (ok_notStar h3).1 (sndE a hX tk h3)
    · cases h
theorem sndA : ∀ (as : As) {X : Cx} {c : Cs} {eA : EA} {P : Hp} {W : WX} {es : List Expr}, XOk ti G Φ k eA c X → Takes X W → okA ti c as es = true → PA X es (TAr G P eA W (evA G.tb Φ as))
  | .nil, X, c, eA, P, W, es, hX, tk, h => by
    unfold okA at h
    split at h
    · exact sndA_nil
    · cases h
  | .cons a as, X, c, eA, P, W, es, hX, tk, h => by
    unfold okA at h
    split at h
    · rw [Bool.and_eq_true] at h
      exact sndA_cons (ok_notStar h.1).1 (sndE a hX tk h.1) (sndA as hX tk h.2)
    · cases h
theorem sndK : ∀ (as : As) {X : Cx} {c : Cs} {eA : EA} {P : Hp} {W : WX} {es : List Keyword}, XOk ti G Φ k eA c X → Takes X W → okK ti c as es = true → PK X es (TAr G P eA W (evA G.tb Φ as))
  | .nil, X, c, eA, P, W, es, hX, tk, h => by
    unfold okK at h
    split at h
    · exact sndK_nil
    · cases h
  | .cons a as, X, c, eA, P, W, es, hX, tk, h => by
    unfold okK at h
    split at h
    · rw [Bool.and_eq_true] at h
      exact sndK_cons (sndE a hX tk h.1) (sndK as hX tk h.2)
    · cases h
end
end
end GF

set_option Elab.async false
set_option linter.all false
set_option maxRecDepth 100000
set_option autoImplicit false
set_option maxHeartbeats 1000000
namespace GF
open PySem PySem.Spec PyProof.Rows L2

/-! ### what is wanted behind a statement -/
def FlQ (G : Ge) (P : Hp) (D : Ends) (f : GF.Flow) (σ : St') (F : Hp) (A : List Ad) (H : Hp) : Prop := match f with
  | .next => D.nx σ H
  | .brk => D.bk σ H
  | .cont => D.ct σ H
  | .ret v => ∀ u, RvR G P F A H v u → D.rt u H
def PstS (G : Ge) (P : Hp) (eA : EA) (W : WX) (A0 : List Ad) (D : Ends) (F : Hp) (r : R GF.Flow) : Prop := match r with
  | .ok f s' => ∀ σ F' A' H', Ext F F' → A0 <+: A' → RelS G P eA s' F' A' σ H' → FlQ G P D f σ F' A' H'
  | .exc c fs s' => ∀ C d σ F' A' H', Ext F F' → A0 <+: A' → RelS G P eA s' F' A' σ H' → ExnR G F' c fs C d → W (.ref C) d σ H'
  | .stuck => False
def TSt (G : Ge) (P : Hp) (eA : EA) (W : WX) (A0 : List Ad) (m : S → R GF.Flow) : TS := fun D σ H => ∃ s F A, A0 <+: A ∧ RelS G P eA s F A σ H ∧ PstS G P eA W A0 D F (m s)
section
variable {α : Type} {G : Ge} {P : Hp} {eA : EA} {W : WX} {F F' : Hp} {A A' A0 : List Ad} {σ : St'} {H : Hp} {s : S} {D D' : Ends}
theorem PstS.mono {r : R GF.Flow} (e : Ext F F') (h : PstS G P eA W A0 D F r) : PstS G P eA W A0 D F' r := by
  cases r with
  | ok f s' => exact fun σ F1 A1 H1 e1 => h σ F1 A1 H1 (e.trans e1)
  | exc c fs s' => exact fun C d σ F1 A1 H1 e1 => h C d σ F1 A1 H1 (e.trans e1)
  | stuck => exact h
theorem PstS.imp {r : R GF.Flow} (h : PstS G P eA W A0 D F r) (hq : ∀ f s' σ F' A' H', Ext F F' → A0 <+: A' → RelS G P eA s' F' A' σ H' → FlQ G P D f σ F' A' H' → FlQ G P D' f σ F' A' H') : PstS G P eA W A0 D' F r := by
  cases r with
  | ok f s' => exact fun σ F1 A1 H1 e1 p1 r1 => hq f s' σ F1 A1 H1 e1 p1 r1 (h σ F1 A1 H1 e1 p1 r1)
  | exc c fs s' => exact h
  | stuck => exact h
/-- a term first -/
theorem PstS.split {r : R α} {f : α → S → R GF.Flow} (h : PstS G P eA W A0 D F (r.bind f)) (p0 : A0 <+: A) : PstE G P eA W F A σ r fun a s' F' A' _ => PstS G P eA W A0 D F' (f a s') := by
  cases r with
  | ok a s' => exact fun F1 A1 H1 e1 p1 _ => PstS.mono e1 (show PstS G P eA W A0 D F (f a s') from h)
  | exc c fs s' => exact fun C d F1 A1 H1 e1 p1 r1 => h C d σ F1 A1 H1 e1 (p0.trans p1) r1
  | stuck => exact h
theorem PstS.now {f : GF.Flow} (h : PstS G P eA W A0 D F (.ok f s)) (p0 : A0 <+: A) (r : RelS G P eA s F A σ H) : FlQ G P D f σ F A H := h σ F A H Ext.refl p0 r
theorem TV.ofS {m : S → R Sl} {f : Sl → S → R GF.Flow} (p0 : A0 <+: A) (r : RelS G P eA s F A σ H) (h : PstS G P eA W A0 D F ((m s).bind f)) {K : VK}
    (hK : ∀ v s' F' A' H' u, Ext F F' → A <+: A' → A0 <+: A' → RelS G P eA s' F' A' σ H' → RepS G F' A' eA v u → PstS G P eA W A0 D F' (f v s') → K u H') : TV G P eA W m σ H K :=
  ⟨s, F, A, r, (PstS.split h p0).imp fun v s' F' A' H' e p r' q u ru => hK v s' F' A' H' u e p (p0.trans p) r' ru q⟩
theorem TBo.ofS {m : S → R Bool} {f : Bool → S → R GF.Flow} (p0 : A0 <+: A) (r : RelS G P eA s F A σ H) (h : PstS G P eA W A0 D F ((m s).bind f)) {K : Bool → Hp → Prop}
    (hK : ∀ v s' F' A' H', Ext F F' → A0 <+: A' → RelS G P eA s' F' A' σ H' → PstS G P eA W A0 D F' (f v s') → K v H') : TBo G P eA W m σ H K :=
  ⟨s, F, A, r, (PstS.split h p0).imp fun v s' F' A' H' e p r' q => hK v s' F' A' H' e (p0.trans p) r' q⟩
theorem TNe.ofS {m : S → R (List GF.D)} {f : List GF.D → S → R GF.Flow} (p0 : A0 <+: A) (r : RelS G P eA s F A σ H) (h : PstS G P eA W A0 D F ((m s).bind f)) {K : VK}
    (hK : ∀ ds s' F' A' H' a vs, Ext F F' → A0 <+: A' → RelS G P eA s' F' A' σ H' → H' a = some (.lst vs) → F' a = none → P a = none → a ∉ A' → Reps G F' ds vs → PstS G P eA W A0 D F' (f ds s') → K (.ref a) H') : TNe G P eA W m σ H K :=
  ⟨s, F, A, r, (PstS.split h p0).imp fun ds s' F' A' H' e p r' q a vs h1 h2 h3 h4 h5 => hK ds s' F' A' H' a vs e (p0.trans p) r' h1 h2 h3 h4 h5 q⟩
theorem TAr.ofS {m : S → R (List Sl)} {f : List Sl → S → R GF.Flow} (p0 : A0 <+: A) (r : RelS G P eA s F A σ H) (h : PstS G P eA W A0 D F ((m s).bind f)) {K : List V → Hp → Prop}
    (hK : ∀ vs s' F' A' H' us, Ext F F' → A0 <+: A' → RelS G P eA s' F' A' σ H' → RepSs G F' A' eA vs us → PstS G P eA W A0 D F' (f vs s') → K us H') : TAr G P eA W m σ H K :=
  ⟨s, F, A, r, (PstS.split h p0).imp fun v s' F' A' H' e p r' q u ru => hK v s' F' A' H' u e (p0.trans p) r' ru q⟩
end

/-! ### the context of a body -/
structure SOk (ti : Ti) (G : Ge) (Φ : Nat → FM) (k : Nat) (eA : EA) (c : Cs) (X : Cx) : Prop extends XOk ti G Φ k eA c X where
  fn : ∀ x, X.fn x = true
  hs : X.stack = X.env :: X.outer
  hf : X.env.frame = some X.env.locals
  po : PassesOwn (model X.prog X.w) X.A X.env X.xe
section
variable {X : Cx} {ti : Ti} {G : Ge} {Φ : Nat → FM} {k : Nat} {eA : EA} {c : Cs} {P : Hp} {W : WX} {A0 : List Ad} {pos p px : Pos} {b0 : Nat}
theorem loc_of {sc : Scope} {x : Str} (h : locB sc x = true) : L2.Loc sc x := by
  unfold locB at h
  unfold L2.Loc
  split at h <;> first | exact .inl (by assumption) | exact .inr (by assumption) | cases h
theorem slotL_of {i : Nat} {x : Str} (hX : XOk ti G Φ k eA c X) (h : slotL c i x = true) : X.N[i]? = some x ∧ L2.Loc X.env.scope x ∧ (x == ("__debug__" : Str)) = false := by
  unfold slotL at h
  rw [Bool.and_eq_true, Bool.and_eq_true, decide_eq_true_eq] at h
  rw [hX.N, hX.sc]
  exact ⟨h.1, loc_of h.2.1, (dbg_of h.2.2).1⟩
theorem swaps_no {v : Expr} (h : isLc v = false) (t : Option Expr) (l : Nat) (env : Env) : swapsWith v t l env = pure false := by
  cases v <;> first | rfl | cases h
/-! ### name = value -/
theorem snd_set {i : Nat} {e : E} {x : Str} {v : Expr} (hX : SOk ti G Φ k eA c X) (tk : Takes X W) (hs : slotL c i x = true) (hv : okE ti c e v = true) (hw : swapsWith v (some (.Name x px)) pos.line X.env = pure false) :
    PS X (.Assign [.Name x px] v pos) (TSt G P eA W A0 (evS G.tb Φ b0 (.set i e))) := by
  obtain ⟨h1, h2, h3⟩ := slotL_of hX.toXOk hs
  refine (ps_set hX.nd h1 h2 (sndE e (P := P) hX.toXOk tk hv) hw (.inl (hX.fn x))).wk fun D σ H ⟨s, F, A, p0, r, h⟩ => ?_
  rw [evS] at h
  refine TV.ofS p0 r h fun x s1 F1 A1 H1 u e1 p1 p2 r1 ru q1 => ?_
  cases x with
  | d x =>
    simp only at q1
    split at q1
    · exact q1.now p2 (r1.put ru (by assumption))
    · exact q1.elim
  | ref _ => exact q1.elim
  | exn _ _ => exact q1.elim
theorem RelS.newCell {s : S} {F : Hp} {A : List Ad} {σ : St'} {H : Hp} {i : Nat} {ds : List D} {a : Ad} {vs : List V} (r : RelS G P eA s F A σ H) (hi : i < s.ρ.length) (h1 : H a = some (.lst vs)) (h2 : F a = none) (h3 : P a = none) (h4 : a ∉ A) (h5 : Reps G F ds vs) :
    RelS G P eA ⟨s.ρ.set i (some (.ref s.M.length)), s.M ++ [.lst ds]⟩ F (A ++ [a]) (σ.set i (some (.ref a))) H := by
  have m := r.mem.cell (m := .lst ds) h2 h3 h4 ⟨vs, h1, h5⟩
  have r2 : RelS G P eA ⟨s.ρ, s.M ++ [.lst ds]⟩ F (A ++ [a]) σ H := r.mono Ext.refl (List.prefix_append _ _) m
  exact r2.put (v := .ref s.M.length) (u := .ref a) ⟨a, by rw [← r.mem.len, List.getElem?_append_right (Nat.le_refl _), Nat.sub_self]; rfl, rfl⟩ hi
theorem sndN_gname {i : Nat} {n : N} {D : Ends} {σ : St'} {H : Hp} (h : TSt G P eA W A0 (evS G.tb Φ b0 (.setN i n)) D σ H) : TNe G P eA W (evN G.tb Φ n) σ H fun x H1 => gName i x σ H1 D.nx := by
  obtain ⟨s, F, A, p0, r, h⟩ := h
  rw [evS] at h
  refine TNe.ofS p0 r h fun ds s1 F1 A1 H1 a vs e1 p1 r1 h1 h2 h3 h4 h5 q1 => ?_
  split at q1
  · exact q1.now (p1.trans (List.prefix_append _ _)) (r1.newCell (by assumption) h1 h2 h3 h4 h5)
  · exact q1.elim
theorem noRef_spec {j : Nat} : ∀ {ρ : List (Option Sl)}, noRef j ρ = true → ∀ (i : Nat), ρ[i]? ≠ some (some (.ref j))
  | [], _, i => by simp
  | x :: r, h, i => by
    cases i with
    | zero =>
      intro z
      simp at z
      subst z
      simp [noRef] at h
    | succ i =>
      intro z
      simp at z
      refine noRef_spec (ρ := r) ?_ i z
      cases x with
      | none => exact h
      | some v => cases v <;> first | exact h | (simp only [noRef, Bool.and_eq_true] at h; exact h.2)
theorem prefix_set {A0 A : List Ad} {j : Nat} {a : Ad} (h : A0 <+: A) (hj : A0.length ≤ j) : A0 <+: A.set j a := by
  obtain ⟨t, rfl⟩ := h
  rw [List.set_append_right _ _ hj]
  exact List.prefix_append _ _
/-- a cell is another list now -/
theorem RelS.reCell {s : S} {F : Hp} {A : List Ad} {σ : St'} {H : Hp} {i j : Nat} {ds : List D} {a : Ad} {vs : List V} (r : RelS G P eA s F A σ H) (hg : s.get i = some (.ref j)) (hn : noRef j (s.ρ.set i none) = true) (hj : j < s.M.length) (h1 : H a = some (.lst vs)) (h2 : F a = none) (h3 : P a = none) (h4 : a ∉ A) (h5 : Reps G F ds vs) :
    RelS G P eA ⟨s.ρ, s.M.set j (.lst ds)⟩ F (A.set j a) (σ.set i (some (.ref a))) H := by
  have hjA : j < A.length := by rw [r.mem.len]; exact hj
  have hi : s.ρ[i]? = some (some (.ref j)) := by
    unfold S.get at hg
    split at hg
    · cases hg; assumption
    · cases hg
  have hil : i < s.ρ.length := (List.getElem?_eq_some_iff.mp hi).1
  have m : RelM G P (s.M.set j (.lst ds)) F (A.set j a) H := by
    refine ⟨r.mem.ex, r.mem.pr, fun b o hb => ⟨(r.mem.pf b o hb).1, fun hm => ?_⟩, by simp [r.mem.len], ?_, fun l b x e1 e2 => ?_⟩
    · rcases List.mem_or_eq_of_mem_set hm with z | z
      · exact (r.mem.pf b o hb).2 z
      · subst z; rw [h3] at hb; cases hb
    · refine nodup_of fun l l' b e1 e2 => ?_
      by_cases hl : l = j
      · subst hl
        rw [List.getElem?_set_self hjA] at e1
        cases e1
        by_cases hl' : l' = l
        · exact hl'.symm
        · rw [List.getElem?_set_ne (Ne.symm hl')] at e2
          exact absurd (List.mem_of_getElem? e2) h4
      · rw [List.getElem?_set_ne (Ne.symm hl)] at e1
        by_cases hl' : l' = j
        · subst hl'
          rw [List.getElem?_set_self hjA] at e2
          cases e2
          exact absurd (List.mem_of_getElem? e1) h4
        · rw [List.getElem?_set_ne (Ne.symm hl')] at e2
          exact nodup_at r.mem.nd e1 e2
    · by_cases hl : l = j
      · subst hl
        rw [List.getElem?_set_self hjA] at e1
        rw [List.getElem?_set_self hj] at e2
        cases e1; cases e2
        exact ⟨h2, vs, h1, h5⟩
      · rw [List.getElem?_set_ne (Ne.symm hl)] at e1 e2
        exact r.mem.cells l b x e1 e2
  refine ⟨m, fun l v e => ?_, by simp [r.slen]⟩
  by_cases hl : l = i
  · subst hl
    have e' : s.ρ[l]? = some (some v) := e
    rw [hi] at e'
    cases e'
    exact ⟨.ref a, by rw [List.getElem?_set_self (by rw [← r.slen]; exact hil)], a, by rw [List.getElem?_set_self hjA], rfl⟩
  · obtain ⟨u, k1, k2⟩ := r.slots l v e
    refine ⟨u, by rw [List.getElem?_set_ne (Ne.symm hl)]; exact k1, ?_⟩
    cases v with
    | d x => exact k2
    | exn c fs => exact k2
    | ref j' =>
      obtain ⟨b, k3, k4⟩ := k2
      have hne : j' ≠ j := fun z => by
        subst z
        refine noRef_spec hn l ?_
        rw [List.getElem?_set_ne (Ne.symm hl)]
        exact e
      exact ⟨b, by rw [List.getElem?_set_ne (Ne.symm hne)]; exact k3, k4⟩
theorem sndR_gname {i : Nat} {n : N} {D : Ends} {σ : St'} {H : Hp} (hb : b0 = A0.length) (h : TSt G P eA W A0 (evS G.tb Φ b0 (.setR i n)) D σ H) : TNe G P eA W (evN G.tb Φ n) σ H fun x H1 => gName i x σ H1 D.nx := by
  obtain ⟨s, F, A, p0, r, h⟩ := h
  rw [evS] at h
  refine TNe.ofS p0 r h fun ds s1 F1 A1 H1 a vs e1 p1 r1 h1 h2 h3 h4 h5 q1 => ?_
  split at q1
  · split at q1
    · rename_i hg hh
      exact q1.now (prefix_set p1 (by rw [← hb]; exact hh.1)) (r1.reCell hg hh.2.2 hh.2.1 h1 h2 h3 h4 h5)
    · exact q1.elim
  · exact q1.elim
theorem sw_cell {v : Expr} {x : Str} {px : Pos} {l : Nat} {env : Env} (h : env.scope.names.lookup x = some .cell) : swapsWith v (some (.Name x px)) l env = pure false := by
  have hk : (env.kindOf x == some NameKind.local) = false := by
    have : env.kindOf x = some .cell := h
    rw [this]; rfl
  unfold swapsWith
  cases v <;> first | rfl | (simp only [hk, Bool.and_false, Bool.false_and]; done) | (simp only [hk, Bool.and_false, Bool.false_and]; rfl)
/-- name = a new list, whichever way it is kept -/
theorem snd_asgN {i : Nat} {n : N} {x : Str} {v : Expr} {t : TS} (hX : SOk ti G Φ k eA c X) (tk : Takes X W) (hs : slotL c i x = true) (hv : okN ti c n v = true) (hw : lcSwap c x px v = true)
    (ht : ∀ D σ H, t D σ H → TNe G P eA W (evN G.tb Φ n) σ H fun x H1 => gName i x σ H1 D.nx) : PS X (.Assign [.Name x px] v pos) t := by
  obtain ⟨h1, h2, h3⟩ := slotL_of hX.toXOk hs
  by_cases hcl : c.sc.names.lookup x = some .cell
  · exact (ps_set hX.nd h1 h2 (sndN n (P := P) hX.toXOk tk hv) (sw_cell (by rw [hX.sc]; exact hcl)) (.inl (hX.fn x))).wk fun D σ H h => ht D σ H h
  by_cases hl : isLc v = false
  · exact (ps_set hX.nd h1 h2 (sndN n (P := P) hX.toXOk tk hv) (swaps_no hl _ _ _) (.inl (hX.fn x))).wk fun D σ H h => ht D σ H h
  · unfold lcSwap at hw
    split at hw
    case h_2 => exact absurd (by simpa using hw) hl
    rename_i elt gs sc lpos
    rw [decide_eq_false hcl, Bool.false_or] at hw
    simp only [Bool.and_eq_true, decide_eq_true_eq, Bool.not_eq_true'] at hw
    obtain ⟨w1, w2, w3⟩ := hw
    have w1' : X.env.scope.names.lookup x = some .local := by rw [hX.sc]; exact w1
    rcases Classical.em X.Ok with ok | hno
    case inr => exact ⟨fun pins s σ H D I h => absurd I.ok hno⟩
    have sw := sw_true (elt := elt) (gs := gs) (scope := sc) (pos := lpos) (py := px) (y := x) (l := pos.line) (env := X.env) ok.kind w1' w2 w3
    cases n with
    | comp j it tt a =>
      unfold okN at hv
      split at hv
      · rename_i elt y py src g sc' pos' heq
        cases heq
        simp only [Bool.and_eq_true] at hv
        obtain ⟨hc, k1, k2, k3, k4, k5⟩ := hv
        have he := hX.eAc hc
        subst he
        have L := lcOk_of hX.toXOk k4 k5
        refine (ps_setLc (own := [(y, j)]) (hX.calm hc) hX.nd h1 w1' sw (sndI it (P := P) (W := W) hX.toXOk tk k1) L.blk (lc_pg hX.toXOk L) (fun s H C cl fp => pts_one (tbo_any fun P' => sndT tt (P := P') (hX.toXOk.blk s H sc C cl fp) takes_blk k2))
          (fun s H C cl fp => tv_any fun P' => sndE a (P := P') (hX.toXOk.blk s H sc C cl fp) takes_blk k3) (fold_of (okI_fold k1) _)).wk fun D σ H h => ?_
        obtain ⟨s, F, A, r, q⟩ := ht D σ H h
        rw [evN] at q
        exact lc_read (fun P σ H K q => ⟨P, q⟩) (fun P σ H K q => ⟨P, q⟩) ⟨s, F, A, r, q⟩
      · cases hv
    | comp0 j it a =>
      unfold okN at hv
      split at hv
      · rename_i elt y py src sc' pos' heq
        cases heq
        simp only [Bool.and_eq_true] at hv
        obtain ⟨hc, k1, k3, k4, k5⟩ := hv
        have he := hX.eAc hc
        subst he
        have L := lcOk_of hX.toXOk k4 k5
        refine (ps_setLc (own := [(y, j)]) (hX.calm hc) hX.nd h1 w1' sw (sndI it (P := P) (W := W) hX.toXOk tk k1) L.blk (lc_pg hX.toXOk L) (fun s H C cl fp => pts_nil)
          (fun s H C cl fp => tv_any fun P' => sndE a (P := P') (hX.toXOk.blk s H sc C cl fp) takes_blk k3) (fold_of (okI_fold k1) _)).wk fun D σ H h => ?_
        obtain ⟨s, F, A, r, q⟩ := ht D σ H h
        rw [evN] at q
        exact lc_read (t := fun s => .ok true s) (fun P σ H K ⟨s, F, A, r, q⟩ => q.now r) (fun P σ H K q => ⟨P, q⟩) ⟨s, F, A, r, q⟩
      · cases hv
    | compC j src a =>
      unfold okN at hv
      split at hv
      · rename_i elt y py z pz sc' pos' heq
        cases heq
        simp only [Bool.and_eq_true] at hv
        obtain ⟨hc, k1, k3, k4, k5⟩ := hv
        have he := hX.eAc hc
        subst he
        have L := lcOk_of hX.toXOk k4 k5
        refine (ps_setLc (own := [(y, j)]) (hX.calm hc) hX.nd h1 w1' sw (sndI_cell (P := P) hX.toXOk k1) L.blk (lc_pg hX.toXOk L) (fun s H C cl fp => pts_nil)
          (fun s H C cl fp => tv_any fun P' => sndE a (P := P') (hX.toXOk.blk s H sc C cl fp) takes_blk k3) (fold_of rfl _)).wk fun D σ H h => ?_
        obtain ⟨s, F, A, r, q⟩ := ht D σ H h
        rw [evN] at q
        exact lc_readC (hX.K) (fun P σ H K q => ⟨P, q⟩) ⟨s, F, A, r, q⟩
      · cases hv
    | disp _ => simp [okN] at hv
    | cat _ _ => simp [okN] at hv
    | catE _ _ => simp [okN] at hv
    | catF _ _ => simp [okN] at hv
    | rep _ _ => simp [okN] at hv
    | ofSeq _ => simp [okN] at hv
    | cut _ _ _ => simp [okN] at hv
    | call _ _ => simp [okN] at hv
    | rev _ => simp [okN] at hv
    | odd _ => simp [okN] at hv
theorem snd_setE {i : Nat} {e : E} {x : Str} {v : Expr} (hX : SOk ti G Φ k eA c X) (tk : Takes X W) (hs : slotL c i x = true) (hv : okE ti c e v = true) (hw : lcSwap c x px v = true) :
    PS X (.Assign [.Name x px] v pos) (TSt G P eA W A0 (evS G.tb Φ b0 (.set i e))) := by
  by_cases hcl : c.sc.names.lookup x = some .cell
  · exact snd_set hX tk hs hv (sw_cell (by rw [hX.sc]; exact hcl))
  by_cases hl : isLc v = false
  · exact snd_set hX tk hs hv (swaps_no hl _ _ _)
  · have hn : ∃ n, e = .frz n := by
      cases e <;> first | exact ⟨_, rfl⟩ | (exfalso; cases v <;> simp_all [okE, isLc])
    obtain ⟨n, rfl⟩ := hn
    refine snd_asgN (P := P) (W := W) (n := n) hX tk hs (show okN ti c n v = true by simpa [okE] using hv) hw fun D σ H ⟨s, F, A, p0, r, h⟩ => ?_
    rw [evS, evE] at h
    refine ⟨s, F, A, r, ?_⟩
    have h' : PstS G P eA W A0 D F ((evN G.tb Φ n s).bind fun ds s => if i < s.ρ.length then R.ok GF.Flow.next (s.put i (.d (.lst ds))) else .stuck) := by
      cases hh : evN G.tb Φ n s with
      | ok ds s' => rw [hh] at h; exact h
      | exc c fs s' => rw [hh] at h; exact h
      | stuck => rw [hh] at h; exact h
    refine (PstS.split h' p0).imp fun ds s1 F1 A1 H1 e1 p1 r1 q a vs k1 k2 k3 k4 k5 => ?_
    split at q
    · have e' : Ext F1 (upd F1 a (.lst vs)) := Ext.new k2
      exact (PstS.mono e' q).now (p0.trans p1) ((r1.mono' e' (r1.mem.freeze k2 k3 k4 k1)).put (v := .d (.lst ds)) (.lst upd_same (k5.mono e')) (by assumption))
    · exact q.elim
end
end GF

set_option Elab.async false
set_option linter.all false
set_option maxRecDepth 100000
set_option autoImplicit false
set_option maxHeartbeats 1000000
namespace GF
open PySem PySem.Spec PyProof.Rows L2

section
variable {X : Cx}
theorem assign_sub {o i : Expr} {pos : Pos} (h : ∀ l k s p, i ≠ .Slice l k s p) (env : Env) (v : Value) : assign (.Subscript o i pos) env v = (do
      let ov ← holding [v] (eval o env)
      let iv ← holding [v, ov] (eval i env)
      standAt pos
      holding [v, ov, iv] (setItem ov iv v)
      release [v, ov, iv] []) := by
  cases i <;> first | rfl | exact absurd rfl (h _ _ _ _)
theorem augStore_sub {i : Expr} (h : ∀ l k s p, i ≠ .Slice l k s p) (ov iv new : Value) : augStore i ov iv new = (do holding [new, ov, iv] (setItem ov iv new); release [new, ov, iv] []; pure .next) := by
  cases i <;> first | rfl | exact absurd rfl (h _ _ _ _)
def rGetL : V → V → Hp → VK → Prop := fun o i H Q => ∃ p xs k z, o = .ref p ∧ i = .int k ∧ H p = some (.lst xs) ∧ L2.atI xs k = some z ∧ Q z H
theorem get_listG : PGet X rGetL := by
  intro pins s σ H o i ov iv Q I ro ri h
  obtain ⟨p, xs, k, z, rfl, rfl, hp, he, q⟩ := h
  cases ro
  obtain ⟨t, rfl⟩ := ri
  obtain ⟨its, r, pl, hz⟩ := I.list (SqL.of hp)
  obtain ⟨j, h1, h2, h3, h4, h5⟩ := atI_get he
  obtain ⟨w, ew, rw'⟩ := r.get h2
  have hl := r.length
  have hn := line63
  have fin : EP X pins σ Q w s := ⟨z, H, I, rw', q⟩
  by_cases h0 : 0 ≤ k
  · have hj : k.toNat = j := by
      rw [seqIndex_of h0 h5] at h1
      exact Option.some.inj h1
    exact wpAny_getItem_list pl.isList h0 (by omega) (by rw [hj]; simpa using ew) fin
  · have hj : (k + (its.toArray.size : Int)).toNat = j := by
      rw [seqIndex_neg (by omega) h4] at h1
      rw [List.size_toArray, ← hl]
      exact Option.some.inj h1
    exact wpAny_getItem_list_neg pl.isList (by omega) (by rw [List.size_toArray] <;> omega) (by omega) (by rw [hj]; simpa using ew) fin
end
section
variable {X : Cx} {ti : Ti} {G : Ge} {Φ : Nat → FM} {k : Nat} {eA : EA} {c : Cs} {P : Hp} {W : WX} {A0 : List Ad} {pos p px : Pos} {b0 : Nat}
theorem ixN_get {α : Type} {xs : List α} {k : Int} {z : α} (h : GF.atI xs k = some z) : ∃ p, GF.ixN xs.length k = some p ∧ xs[p]? = some z := Option.bind_eq_some_iff.mp h
theorem RelS.setCell {s : S} {F : Hp} {A : List Ad} {σ : St'} {H : Hp} {j p : Nat} {a : Ad} {xs : List D} {vs : List V} {d : D} {u : V} (r : RelS G P eA s F A σ H) (ha : A[j]? = some a) (h1 : H a = some (.lst vs)) (h2 : Reps G F xs vs) (ru : Rep G F d u) :
    RelS G P eA ⟨s.ρ, s.M.set j (.lst (xs.set p d))⟩ F A σ (upd H a (.lst (vs.set p u))) :=
  r.mono Ext.refl (List.prefix_refl _) (r.mem.write ha ⟨_, rfl, h2.set ru p⟩)
theorem swaps_sole {t v : Expr} {l : Nat} {env : Env} (h : isLc v = false) : swapsWithSole [t] v l env = pure false := swaps_no h (some t) l env
theorem snd_setsub {i : Nat} {x e : E} {y : Str} {ix v : Expr} (hX : SOk ti G Φ k eA c X) (tk : Takes X W) (hs : slotB c i y = true) (hx : okE ti c x ix = true) (hv : okE ti c e v = true) (hl : isLc v = false) :
    PS X (.Assign [.Subscript (.Name y px) ix p] v pos) (TSt G P eA W A0 (evS G.tb Φ b0 (.setsub i x e))) := by
  obtain ⟨h1, h2, h3, h4⟩ := slot_of hX.toXOk hs
  have hns := (ok_notStar hx).2
  refine (ps_asg (sndE e (P := P) hX.toXOk tk hv) (pg_sub (pe_var h1 h2 h3 h4) (sndE x (P := P) hX.toXOk tk hx) set_list (assign_sub hns X.env)) (swaps_sole hl)).wk fun D σ H ⟨s, F, A, p0, r, h⟩ => ?_
  rw [evS] at h
  refine TV.ofS p0 r h fun v' s1 F1 A1 H1 u e1 _ p1 r1 ru q1 => ?_
  split at q1
  case h_2 => exact q1.elim
  rename_i j hj
  obtain ⟨w, hw, rw'⟩ := r1.get hj
  refine ⟨w, hw, TV.ofS p1 r1 q1 fun kk s2 F2 A2 H2 u2 e2 p2 p2' r2 ru2 q2 => ?_⟩
  split at q2
  case h_2 => exact q2.elim
  rename_i v k xs hk hm
  split at q2
  case h_2 => exact q2.elim
  rename_i q hq
  obtain ⟨a, ha, rfl⟩ := rw'
  have ha2 := pre_get p2 ha
  obtain ⟨vs, hH, hr⟩ := r2.mem.at_ ha2 hm
  have ru' := RepS.mono e2 p2 ru
  exact ⟨a, vs, k, q, rfl, rep_int hk ru2, hH, by rw [ixN_eq, hr.length]; exact hq, q2.now p2' (r2.setCell ha2 hH hr ru')⟩
theorem putF_new {f : Str} {v : V} : ∀ {fs : List (Str × V)}, f ∉ fs.map (·.1) → putF f v fs = fs ++ [(f, v)]
  | [], _ => rfl
  | (k, x) :: r, h => by
    rw [List.map_cons, List.mem_cons, not_or] at h
    rw [show putF f v ((k, x) :: r) = (if k = f then (k, v) :: r else (k, x) :: putF f v r) from rfl, if_neg (Ne.symm h.1), putF_new h.2]
    rfl
theorem snd_setfld {i : Nat} {x : String} {e : E} {y f : Str} {v : Expr} (hX : SOk ti G Φ k eA c X) (tk : Takes X W) (hs : slotB c i y = true) (hv : okE ti c e v = true) (hn : f = Str.ofString x) (hl : isLc v = false) :
    PS X (.Assign [.Attribute (.Name y px) f p] v pos) (TSt G P eA W A0 (evS G.tb Φ b0 (.setfld i x e))) := by
  obtain ⟨h1, h2, h3, h4⟩ := slot_of hX.toXOk hs
  refine (ps_fld (pe_var h1 h2 h3 h4) (sndE e (P := P) hX.toXOk tk hv) (swaps_no hl _ _ _)).wk fun D σ H ⟨s, F, A, p0, r, h⟩ => ?_
  rw [evS] at h
  refine TV.ofS p0 r h fun v' s1 F1 A1 H1 u e1 _ p1 r1 ru q1 => ?_
  split at q1
  case h_2 => exact q1.elim
  rename_i d j hj
  obtain ⟨w, hw, rw'⟩ := r1.get hj
  refine ⟨w, hw, ?_⟩
  split at q1
  case h_2 => exact q1.elim
  rename_i cn fs hm
  split at q1
  case h_2 => exact q1.elim
  rename_i kf hk
  split at q1
  case isFalse => exact q1.elim
  rename_i hcond
  obtain ⟨rfl, h9⟩ := hcond
  obtain ⟨a, ha, rfl⟩ := rw'
  obtain ⟨fx1, dx, fv, vs, g1, g2, g3, g4⟩ := r1.mem.cells j a _ ha hm
  subst g3
  obtain ⟨ci, k1, k2, k3⟩ := fix_of hk
  have hnm : (G.nms cn)[fs.length]? = some f := by
    rw [hX.cls.nms cn ci k1, List.getElem?_map, k3, hn]; rfl
  have hno := hX.cls.fld cn f (cls_lt k1) (List.mem_of_getElem? hnm)
  rw [hX.K] at hno
  have lf : fv.length = fs.length := by have := g4.length; rwa [List.length_map] at this
  have ni : f ∉ fv.map (·.1) := by
    rw [g2]
    intro z
    obtain ⟨i2, hi2, e2⟩ := List.mem_iff_getElem.mp z
    rw [List.length_take] at hi2
    have e3 : (G.nms cn)[i2]? = some f := by
      have : ((G.nms cn).take fs.length)[i2]? = some f := by rw [List.getElem?_eq_getElem (by rw [List.length_take]; exact hi2), e2]
      rwa [List.getElem?_take_of_lt (by omega)] at this
    have := nodup_at (hX.cls.nd cn (cls_lt k1)) e3 hnm
    omega
  refine ⟨a, G.cad cn, dx, fv, rfl, g1, cls_of hX.toXOk k1 k2, hno, by omega, ?_⟩
  rw [putF_new ni]
  have hlt : fs.length < (G.nms cn).length := (List.getElem?_eq_some_iff.mp hnm).1
  refine q1.now p1 (r1.mono Ext.refl (List.prefix_refl _) (r1.mem.write ha ⟨dx, fv ++ [(f, u)], _, rfl, ?_, rfl, ?_⟩))
  · rw [List.map_append, g2, List.length_append, List.length_singleton, List.take_add_one, hnm]; rfl
  · rw [List.map_append]; exact g4.append (.cons ru .nil)
def rAugG (G : Ge) (P : Hp) (o : Bop) : TIp := fun u w H Q => ∃ (M : List D) (F : Hp) (A : List Ad) (x y z : D), RelM G P M F A H ∧ Rep G F x u ∧ Rep G F y w ∧ binA o x y = some z ∧ AnsD G P M F A z Q
theorem aug_ip {o : Bop} (hK : G.K = X.K) (ho : augOk o = true) : PIp X (bopOf o) (rAugG G P o) := by
  intro pins s σ H u w uv wv Q I ru rw' ⟨M, F, A, x, y, z, r, rx, ry, hz, q⟩
  have h1 : o = .add ∨ o = .sub := by cases o <;> first | exact .inl rfl | exact .inr rfl | cases ho
  have h2 : (∀ l, x ≠ .tup l) ∧ binD o x y = some z := by
    unfold binA at hz
    split at hz
    · cases hz
    · rename_i hne
      exact ⟨fun l e => hne l e, hz⟩
  exact aug_run hK h2.2 h1 h2.1 rx ry ru rw' I r q
theorem snd_augsub {i : Nat} {x e : E} {o : Bop} {y : Str} {ix v : Expr} (hX : SOk ti G Φ k eA c X) (tk : Takes X W) (hs : slotB c i y = true) (hx : okE ti c x ix = true) (hv : okE ti c e v = true) (ho : augOk o = true) :
    PS X (.AugAssign (.Subscript (.Name y px) ix p) (bopOf o) v pos) (TSt G P eA W A0 (evS G.tb Φ b0 (.augsub i x o e))) := by
  obtain ⟨h1, h2, h3, h4⟩ := slot_of hX.toXOk hs
  have hns := (ok_notStar hx).2
  refine (ps_augS (pe_var h1 h2 h3 h4) (sndE x (P := P) hX.toXOk tk hx) get_listG (sndE e (P := P) hX.toXOk tk hv) (aug_ip (P := P) hX.K ho) set_list (augStore_sub hns)).wk fun D σ H ⟨s, F, A, p0, r, h⟩ => ?_
  rw [evS] at h
  split at h
  case h_2 => exact h.elim
  rename_i j hj
  obtain ⟨w, hw, rw'⟩ := r.get hj
  refine ⟨w, hw, TV.ofS p0 r h fun kk s1 F1 A1 H1 u1 e1 p1 p1' r1 ru1 q1 => ?_⟩
  split at q1
  case h_2 => exact q1.elim
  rename_i k xs hk hm
  split at q1
  case h_2 => exact q1.elim
  rename_i old hold
  obtain ⟨a, ha, rfl⟩ := rw'
  have ha1 := pre_get p1 ha
  obtain ⟨vs, hH, hr⟩ := r1.mem.at_ ha1 hm
  obtain ⟨ov, ho1, ho2⟩ := hr.at hold
  refine ⟨a, vs, k, ov, rfl, rep_int hk ru1, hH, ho1, TV.ofS p1' r1 q1 fun v' s2 F2 A2 H2 u2 e2 p2 p2' r2 ru2 q2 => ?_⟩
  split at q2
  case h_2 => exact q2.elim
  rename_i v'' ys hm2
  split at q2
  case h_2 => exact q2.elim
  rename_i rr q hb hq
  have ha2 := pre_get p2 ha1
  refine ⟨s2.M, F2, A2, old, v'', rr, r2.mem, ho2.mono e2, ru2, hb, fun z F3 H3 e3 m3 rz => ?_⟩
  obtain ⟨ws, hH3, hr3⟩ := m3.at_ ha2 hm2
  have r3 : RelS G P eA s2 F3 A2 σ H3 := r2.mono' e3 m3
  exact ⟨a, ws, k, q, rfl, rep_int hk ru1, hH3, by rw [ixN_eq, hr3.length]; exact hq, (PstS.mono e3 q2).now p2' (r3.setCell ha2 hH3 hr3 rz)⟩
theorem snd_aug {i : Nat} {e : E} {o : Bop} {x : Str} {v : Expr} (hX : SOk ti G Φ k eA c X) (tk : Takes X W) (hs : slotL c i x = true) (hv : okE ti c e v = true) (ho : augOk o = true) :
    PS X (.AugAssign (.Name x px) (bopOf o) v pos) (TSt G P eA W A0 (evS G.tb Φ b0 (.aug i o e))) := by
  obtain ⟨h1, h2, h3⟩ := slotL_of hX.toXOk hs
  refine (ps_aug hX.nd h1 h2 (sndE e (P := P) hX.toXOk tk hv) (aug_ip (P := P) hX.K ho) (.inl (hX.fn x))).wk fun D σ H ⟨s, F, A, p0, r, h⟩ => ?_
  rw [evS] at h
  split at h
  case h_2 => exact h.elim
  rename_i xd hx
  obtain ⟨w, hw, rw'⟩ := r.get hx
  have hi : i < s.ρ.length := by rw [r.slen]; exact (List.getElem?_eq_some_iff.mp hw).1
  refine ⟨w, hw, TV.ofS p0 r h fun y s1 F1 A1 H1 u e1 p1 p1' r1 ru q1 => ?_⟩
  split at q1
  case h_2 => exact q1.elim
  rename_i yd
  split at q1
  case h_2 => exact q1.elim
  rename_i rr hb
  have hi1 : i < s1.ρ.length := by rw [r1.slen, ← r.slen]; exact hi
  exact ⟨s1.M, F1, A1, xd, yd, rr, r1.mem, RepS.mono e1 p1 rw', ru, hb, fun z F2 H2 e2 m2 rz => (PstS.mono e2 q1).now p1' ((r1.mono' e2 m2).put (v := .d rr) rz hi1)⟩

/-! ### several names -/
def gSlots : List Nat → TGs
  | [] => gNil
  | i :: is => gCons (gName i) (gSlots is)
theorem slots_pgs (hX : SOk ti G Φ k eA c X) : ∀ {is : List Nat} {ts : List Expr}, slotsL c is ts = true → PGs X ts (gSlots is) ∧ (assignEach ts X.env).length = is.length ∧ (assignEach ts X.env).findIdx? (·.1) = none
  | [], [], _ => ⟨pgs_nil, rfl, rfl⟩
  | [], _ :: _, h => by simp [slotsL] at h
  | i :: is, t :: ts, h => by
    cases t <;> first | (simp [slotsL] at h; done) | skip
    rename_i x p
    rw [slotsL, Bool.and_eq_true] at h
    obtain ⟨h1, h2, h3⟩ := slots_pgs hX h.2
    obtain ⟨k1, k2, k3⟩ := slotL_of hX.toXOk h.1
    refine ⟨pgs_cons (pg_name hX.nd k1 k2 (.inl (hX.fn x))) h1, ?_, ?_⟩
    · show (assignEach ts X.env).length + 1 = is.length + 1
      rw [h2]
    · show List.findIdx? (·.1) ((false, assign (.Name x p) X.env) :: assignEach ts X.env) = none
      rw [List.findIdx?_cons]
      simp [h3]
  | _ :: _, [], h => by simp [slotsL] at h
theorem gSlots_run {F : Hp} {A : List Ad} {H : Hp} {Q : St' → Hp → Prop} : ∀ {is : List Nat} {xs : List D} {vs : List V} {s s' : S} {σ : St'}, RelS G P eA s F A σ H → Reps G F xs vs → putMany is xs s = some s' → (∀ σ', RelS G P eA s' F A σ' H → Q σ' H) → gSlots is vs σ H Q
  | [], [], _, s, s', σ, r, .nil, h, q => by
    cases h
    exact ⟨rfl, q σ r⟩
  | [], _ :: _, _, _, _, _, _, _, h, _ => by simp [putMany] at h
  | _ :: _, [], _, _, _, _, _, _, h, _ => by simp [putMany] at h
  | i :: is, x :: xs, v :: vs, s, s', σ, r, .cons rx rt, h, q => by
    rw [putMany] at h
    split at h
    · exact ⟨v, vs, rfl, gSlots_run (r.put (v := .d x) rx (by assumption)) rt h q⟩
    · cases h
theorem putMany_len : ∀ {is : List Nat} {xs : List D} {s s' : S}, putMany is xs s = some s' → xs.length = is.length
  | [], [], _, _, _ => rfl
  | [], _ :: _, _, _, h => by simp [putMany] at h
  | _ :: _, [], _, _, h => by simp [putMany] at h
  | i :: is, x :: xs, s, s', h => by
    rw [putMany] at h
    split at h
    · rw [List.length_cons, List.length_cons, putMany_len h]
    · cases h
theorem swapped_no {ts : List Expr} {v : Expr} {k p} (h : isTupE v = false) (env : Env) : swappedStores [.Tuple ts k p] v env = pure none := by
  cases v <;> first | rfl | cases h
theorem snd_unp {is : List Nat} {e : E} {ts : List Expr} {v : Expr} {kk} (hX : SOk ti G Φ k eA c X) (tk : Takes X W) (hc : c.calm = true) (hs : slotsL c is ts = true) (hv : okE ti c e v = true) (ht : isTupE v = false) (hl : isLc v = false) :
    PS X (.Assign [.Tuple ts kk p] v pos) (TSt G P eA W A0 (evS G.tb Φ b0 (.unp is e))) := by
  obtain ⟨h1, h2, h3⟩ := slots_pgs hX hs
  refine (ps_asg (sndE e (P := P) hX.toXOk tk hv) (pg_tup (hX.calm hc) h1 h2 h3) (swaps_sole hl) (swapped_no ht _)).wk fun D σ H ⟨s, F, A, p0, r, h⟩ => ?_
  rw [evS] at h
  refine TV.ofS p0 r h fun x s1 F1 A1 H1 u e1 p1 p1' r1 ru q1 => ?_
  split at q1
  case h_2 => exact q1.elim
  rename_i xs
  split at q1
  case h_2 => exact q1.elim
  rename_i s' hs'
  obtain ⟨a, vs, rfl, k1, k2⟩ := Rep.tup_ ru
  exact ⟨a, vs, rfl, hX.K ▸ ext_t r1.mem.ex k1, by rw [k2.length, putMany_len hs'], gSlots_run r1 k2 hs' fun σ' r' => q1.now p1' r'⟩
theorem swapped_two {x y : Str} {px py : Pos} {kt pt k2 pt2} {v w : Expr} {env : Env} (hk : env.scope.kind = .function) (hx : env.scope.names.lookup x = some .local) (hy : env.scope.names.lookup y = some .local) (hl : (px.line == py.line) = true) (hne : x ≠ y)
    (s1 : ∀ x p, v ≠ .Starred x p) (s2 : ∀ x p, w ≠ .Starred x p) (f1 : (foldedForSure 8 v && foldedForSure 8 w) = false) (f2 : (constantsAlone 8 v && constantsAlone 8 w) = false) :
    swappedStores [.Tuple [.Name x px, .Name y py] kt pt] (.Tuple [v, w] k2 pt2) env = pure (some [x, y]) := by
  have kx : (env.kindOf x == some NameKind.local) = true := by
    have : env.kindOf x = some .local := hx
    rw [this]; rfl
  have ky : (env.kindOf y == some NameKind.local) = true := by
    have : env.kindOf y = some .local := hy
    rw [this]; rfl
  have hb : (env.blockKind != .function) = false := by
    have : env.blockKind = .function := by unfold Env.blockKind; rw [hk]; rfl
    rw [this]; rfl
  have l1 : (px.line == px.line) = true := beq_self_eq_true _
  have l2 : (py.line == px.line) = true := by rw [beq_iff_eq] at hl ⊢; exact hl.symm
  have dd : ([x, y] : List Str).eraseDups.length = 2 := by
    have : (y == x) = false := beq_eq_false_iff_ne.mpr (Ne.symm hne)
    simp [List.eraseDups_cons, this, List.filter]
  have fa : ([v, w].all (foldedForSure 8)) = false := by simpa [List.all_cons] using f1
  have ca : ([v, w].all (constantsAlone 8)) = false := by simpa [List.all_cons] using f2
  have kany : ∀ (f : Expr → Bool), (∀ e : Expr, (∀ x p, e ≠ .Starred x p) → f e = false) → [v, w].any f = false := fun f hf => by
    simp only [List.any_cons, List.any_nil, hf v s1, hf w s2, Bool.or_false]
  have kfm : ∀ (f : Expr → Option Str), f (.Name x px) = some x → f (.Name y py) = some y → [Expr.Name x px, Expr.Name y py].filterMap f = [x, y] := fun f h1 h2 => by
    simp only [List.filterMap_cons, List.filterMap_nil, h1, h2]
  unfold swappedStores
  simp only [List.length_cons, List.length_nil, List.head?_cons, Option.map_some, Option.getD_some, Expr.pos]
  rw [hb, kany _ (fun e he => by cases e <;> first | rfl | exact absurd rfl (he _ _))]
  simp only [kfm, kx, ky, l1, l2, Bool.and_self, if_true, fa, ca, dd, List.length_cons, List.length_nil, List.head?_cons, Option.map_some, Option.getD_some, Expr.pos]
  rfl
theorem snd_par2 {i j : Nat} {a b : E} {x y : Str} {py : Pos} {v w : Expr} {kt pt k2 pt2} (hX : SOk ti G Φ k eA c X) (tk : Takes X W) (hc : c.calm = true) (hi : slotL c i x = true) (hj : slotL c j y = true) (hij : i ≠ j) (hx : c.sc.names.lookup x = some .local) (hy : c.sc.names.lookup y = some .local)
    (hl : (px.line == py.line) = true) (ha : okE ti c a v = true) (hb : okE ti c b w = true) (hne : x ≠ y) (f1 : (foldedForSure 8 v && foldedForSure 8 w) = false) (f2 : (constantsAlone 8 v && constantsAlone 8 w) = false) :
    PS X (.Assign [.Tuple [.Name x px, .Name y py] kt pt] (.Tuple [v, w] k2 pt2) pos) (TSt G P eA W A0 (evS G.tb Φ b0 (.par2 i j a b))) := by
  rcases Classical.em X.Ok with ok | hno
  case inr => exact ⟨fun pins s σ H D I h => absurd I.ok hno⟩
  obtain ⟨i1, i2, i3⟩ := slotL_of hX.toXOk hi
  obtain ⟨j1, j2, j3⟩ := slotL_of hX.toXOk hj
  have hx' : X.env.scope.names.lookup x = some .local := by rw [hX.sc]; exact hx
  have hy' : X.env.scope.names.lookup y = some .local := by rw [hX.sc]; exact hy
  have s1 := (ok_notStar ha).1
  have s2 := (ok_notStar hb).1
  refine (ps_par (hX.calm hc) hX.nd i1 j1 hij hx' hy' (pa_cons (sndE a (P := P) hX.toXOk tk ha) (pa_cons (sndE b (P := P) hX.toXOk tk hb) pa_nil (star_of s2 _ _)) (star_of s1 _ _)) (swapped_two ok.kind hx' hy' hl hne s1 s2 f1 f2)).wk fun D σ H ⟨s, F, A, p0, r, h⟩ => ?_
  rw [evS] at h
  refine TV.ofS p0 r h fun xa s1 F1 A1 H1 u e1 p1 p1' r1 ru q1 => TV.ofS p1' r1 q1 fun xb s2 F2 A2 H2 w e2 p2 p2' r2 rw' q2 => ?_
  split at q2
  case h_2 => exact q2.elim
  split at q2
  case isFalse => exact q2.elim
  rename_i hh
  refine ⟨u, w, rfl, q2.now p2' ?_⟩
  exact (r2.put (v := .d _) (RepS.mono e2 p2 ru) hh.1).put (v := .d _) rw' (by simpa [S.put] using hh.2)

theorem swapped_three {x y z : Str} {px py pz : Pos} {kt pt k2 pt2} {v w r : Expr} {env : Env} (hk : env.scope.kind = .function) (hx : env.scope.names.lookup x = some .local) (hy : env.scope.names.lookup y = some .local) (hz : env.scope.names.lookup z = some .local) (hl : (px.line == py.line) = true) (hl2 : (px.line == pz.line) = true) (hne : x ≠ y) (hne2 : x ≠ z) (hne3 : y ≠ z)
    (s1 : ∀ x p, v ≠ .Starred x p) (s2 : ∀ x p, w ≠ .Starred x p) (s3 : ∀ x p, r ≠ .Starred x p) (f1 : (foldedForSure 8 v && (foldedForSure 8 w && foldedForSure 8 r)) = false) (f2 : (constantsAlone 8 v && (constantsAlone 8 w && constantsAlone 8 r)) = false) :
    swappedStores [.Tuple [.Name x px, .Name y py, .Name z pz] kt pt] (.Tuple [v, w, r] k2 pt2) env = pure (some [x, y, z]) := by
  have kx : (env.kindOf x == some NameKind.local) = true := by
    have : env.kindOf x = some .local := hx
    rw [this]; rfl
  have ky : (env.kindOf y == some NameKind.local) = true := by
    have : env.kindOf y = some .local := hy
    rw [this]; rfl
  have kz : (env.kindOf z == some NameKind.local) = true := by
    have : env.kindOf z = some .local := hz
    rw [this]; rfl
  have hb : (env.blockKind != .function) = false := by
    have : env.blockKind = .function := by unfold Env.blockKind; rw [hk]; rfl
    rw [this]; rfl
  have l1 : (px.line == px.line) = true := beq_self_eq_true _
  have l2 : (py.line == px.line) = true := by rw [beq_iff_eq] at hl ⊢; exact hl.symm
  have l3 : (pz.line == px.line) = true := by rw [beq_iff_eq] at hl2 ⊢; exact hl2.symm
  have kany : ∀ e : Expr, (∀ x p, e ≠ .Starred x p) → (match e with | .Starred .. => true | _ => false) = false := fun e he => by cases e <;> first | rfl | exact absurd rfl (he _ _)
  have a1 := kany v s1
  have a2 := kany w s2
  have a3 := kany r s3
  have e1 : ¬ y = x := fun h => hne h.symm
  have e2 : ¬ z = x := fun h => hne2 h.symm
  have e3 : ¬ z = y := fun h => hne3 h.symm
  have dd : [x, y, z].eraseDups = [x, y, z] := by
    simp [List.eraseDups_cons, e1, e2, e3]
  have fa : [v, w, r].all (foldedForSure 8) = false := by simpa using f1
  have ca : [v, w, r].all (constantsAlone 8) = false := by simpa using f2
  unfold swappedStores
  simp only [List.length_cons, List.length_nil]
  rw [hb]
  simp only [List.any_cons, List.any_nil, a1, a2, a3, kx, ky, kz, l1, l2, l3, List.filterMap_cons, List.filterMap_nil, Bool.and_self, if_true, fa, ca, dd, List.length_cons, List.length_nil, List.head?_cons, Option.map_some, Option.getD_some, Expr.pos]
  rfl
theorem snd_par3 {i j l : Nat} {a b d : E} {x y z : Str} {py pz : Pos} {v w r : Expr} {kt pt k2 pt2} (hX : SOk ti G Φ k eA c X) (tk : Takes X W) (hc : c.calm = true) (hi : slotL c i x = true) (hj : slotL c j y = true) (hl0 : slotL c l z = true) (hij : i ≠ j) (hil : i ≠ l) (hjl : j ≠ l)
    (hx : c.sc.names.lookup x = some .local) (hy : c.sc.names.lookup y = some .local) (hz : c.sc.names.lookup z = some .local)
    (hl : (px.line == py.line) = true) (hl2 : (px.line == pz.line) = true) (ha : okE ti c a v = true) (hb : okE ti c b w = true) (hd : okE ti c d r = true) (hne : x ≠ y) (hne2 : x ≠ z) (hne3 : y ≠ z)
    (f1 : (foldedForSure 8 v && (foldedForSure 8 w && foldedForSure 8 r)) = false) (f2 : (constantsAlone 8 v && (constantsAlone 8 w && constantsAlone 8 r)) = false) :
    PS X (.Assign [.Tuple [.Name x px, .Name y py, .Name z pz] kt pt] (.Tuple [v, w, r] k2 pt2) pos) (TSt G P eA W A0 (evS G.tb Φ b0 (.par3 i j l a b d))) := by
  rcases Classical.em X.Ok with ok | hno
  case inr => exact ⟨fun pins s σ H D I h => absurd I.ok hno⟩
  obtain ⟨i1, i2, i3⟩ := slotL_of hX.toXOk hi
  obtain ⟨j1, j2, j3⟩ := slotL_of hX.toXOk hj
  obtain ⟨n1, n2, n3⟩ := slotL_of hX.toXOk hl0
  have hx' : X.env.scope.names.lookup x = some .local := by rw [hX.sc]; exact hx
  have hy' : X.env.scope.names.lookup y = some .local := by rw [hX.sc]; exact hy
  have hz' : X.env.scope.names.lookup z = some .local := by rw [hX.sc]; exact hz
  have s1 := (ok_notStar ha).1
  have s2 := (ok_notStar hb).1
  have s3 := (ok_notStar hd).1
  refine (ps_par3 (hX.calm hc) hX.nd i1 j1 n1 hij hil hjl hx' hy' hz' (pa_cons (sndE a (P := P) hX.toXOk tk ha) (pa_cons (sndE b (P := P) hX.toXOk tk hb) (pa_cons (sndE d (P := P) hX.toXOk tk hd) pa_nil (star_of s3 _ _)) (star_of s2 _ _)) (star_of s1 _ _)) (swapped_three ok.kind hx' hy' hz' hl hl2 hne hne2 hne3 s1 s2 s3 f1 f2)).wk fun D σ H ⟨s, F, A, p0, r, h⟩ => ?_
  rw [evS] at h
  refine TV.ofS p0 r h fun xa s1 F1 A1 H1 u e1 p1 p1' r1 ru q1 => TV.ofS p1' r1 q1 fun xb s2 F2 A2 H2 w e2 p2 p2' r2 rw' q2 => TV.ofS p2' r2 q2 fun xd s3 F3 A3 H3 w3 e3 p3 p3' r3 rd q3 => ?_
  split at q3
  case h_2 => exact q3.elim
  split at q3
  case isFalse => exact q3.elim
  rename_i hh
  refine ⟨u, w, w3, rfl, q3.now p3' ?_⟩
  refine ((r3.put (v := .d _) (RepS.mono (e2.trans e3) (p2.trans p3) ru) hh.1).put (v := .d _) (RepS.mono e3 p3 rw') (by simpa [S.put] using hh.2.1)).put (v := .d _) rd (by simpa [S.put] using hh.2.2)

/-! ### small statements -/
theorem snd_ex {e : E} {v : Expr} (hX : SOk ti G Φ k eA c X) (tk : Takes X W) (hv : okE ti c e v = true) (hl : isLc v = false) : PS X (.Expr v pos) (TSt G P eA W A0 (evS G.tb Φ b0 (.ex e))) := by
  refine (ps_expr (sndE e (P := P) hX.toXOk tk hv) (swaps_no hl _ _ _)).wk fun D σ H ⟨s, F, A, p0, r, h⟩ => ?_
  rw [evS] at h
  exact TV.ofS p0 r h fun x s1 F1 A1 H1 u e1 p1 p1' r1 ru q1 => q1.now p1' r1
theorem snd_ret {e : E} {v : Expr} (hX : SOk ti G Φ k eA c X) (tk : Takes X W) (hv : okE ti c e v = true) : PS X (.Return (some v) pos) (TSt G P eA W A0 (evS G.tb Φ b0 (.ret e))) := by
  refine (ps_ret (sndE e (P := P) hX.toXOk tk hv)).wk fun D σ H ⟨s, F, A, p0, r, h⟩ => ?_
  rw [evS] at h
  refine TV.ofS p0 r h fun x s1 F1 A1 H1 u e1 p1 p1' r1 ru q1 => ?_
  cases x with
  | d x => exact q1.now p1' r1 u ru
  | ref _ => exact q1.elim
  | exn _ _ => exact q1.elim
theorem snd_retN {n : N} {v : Expr} (hX : SOk ti G Φ k eA c X) (tk : Takes X W) (hv : okN ti c n v = true) : PS X (.Return (some v) pos) (TSt G P eA W A0 (evS G.tb Φ b0 (.retN n))) := by
  refine (ps_ret (sndN n (P := P) hX.toXOk tk hv)).wk fun D σ H ⟨s, F, A, p0, r, h⟩ => ?_
  rw [evS] at h
  exact TNe.ofS p0 r h fun ds s1 F1 A1 H1 a vs e1 p1' r1 h1 h2 h3 h4 h5 q1 => q1.now p1' r1 _ ⟨a, vs, rfl, h1, h2, h3, h4, h5⟩
theorem RelS.clear {s : S} {F : Hp} {A : List Ad} {σ : St'} {H : Hp} (r : RelS G P eA s F A σ H) (n : Nat) : RelS G P eA ⟨s.ρ.map fun _ => none, s.M.take n⟩ F (A.take n) σ H := by
  refine ⟨r.mem.trunc n, fun i v e => ?_, by simp [r.slen]⟩
  have e' : (s.ρ.map fun _ => (none : Option Sl))[i]? = some (some v) := e
  rw [List.getElem?_map] at e'
  obtain ⟨_, _, z⟩ := Option.map_eq_some_iff.mp e'
  cases z
theorem take_not {α : Type} {A : List α} {j : Nat} {a : α} (nd : A.Nodup) (h : A[j]? = some a) : a ∉ A.take j := by
  intro hm
  obtain ⟨l, hl, e⟩ := List.mem_iff_getElem.mp hm
  have hl' : l < j := by rw [List.length_take] at hl; omega
  have e1 : A[l]? = some a := by
    have : (A.take j)[l]? = some a := by rw [List.getElem?_eq_getElem hl, e]
    rw [List.getElem?_take, if_pos hl'] at this
    exact this
  have := nodup_at nd e1 h
  omega
theorem pre_take {α : Type} {A0 A : List α} {j : Nat} (h : A0 <+: A) (hj : A0.length ≤ j) : A0 <+: A.take j := by
  obtain ⟨t, rfl⟩ := h
  rw [List.take_append, List.take_of_length_le hj]
  exact List.prefix_append _ _
theorem P_none {M : List D} {F : Hp} {A : List Ad} {H : Hp} {j : Nat} {a : Ad} (r : RelM G P M F A H) (h : A[j]? = some a) : P a = none := by
  cases q : P a with
  | none => rfl
  | some u => exact absurd (List.mem_of_getElem? h) (r.pf a u q).2
theorem snd_retC {i : Nat} {x : Str} (hX : SOk ti G Φ k eA c X) (hb : b0 = A0.length) (hs : slotB c i x = true) : PS X (.Return (some (.Name x px)) pos) (TSt G P eA W A0 (evS G.tb Φ b0 (.retC i))) := by
  obtain ⟨h1, h2, h3, h4⟩ := slot_of hX.toXOk hs
  refine (ps_ret (pe_var h1 h2 h3 h4)).wk fun D σ H ⟨s, F, A, p0, r, h⟩ => ?_
  rw [evS] at h
  split at h
  case h_2 => exact h.elim
  rename_i j hj
  split at h
  case h_2 => exact h.elim
  rename_i xs hm
  split at h
  case isFalse => exact h.elim
  rename_i hle
  obtain ⟨u, hu, a, ha, rfl⟩ := r.get hj
  obtain ⟨vs, hH, hr⟩ := r.mem.at_ ha hm
  have f1 := (r.mem.cells j a _ ha hm).1
  refine ⟨_, hu, h.now (pre_take p0 (by rw [← hb]; exact hle)) (r.clear j) _ ⟨a, vs, rfl, hH, f1, P_none r.mem ha, take_not r.mem.nd ha, hr⟩⟩
theorem snd_ret0 : PS X (.Return none pos) (TSt G P eA W A0 (evS G.tb Φ b0 .ret0)) := by
  refine ps_retN.wk fun D σ H ⟨s, F, A, p0, r, h⟩ => ?_
  rw [evS] at h
  exact h.now p0 r _ .non
theorem snd_brk : PS X (.Break pos) (TSt G P eA W A0 (evS G.tb Φ b0 .brk)) := by
  refine ps_break.wk fun D σ H ⟨s, F, A, p0, r, h⟩ => ?_
  rw [evS] at h
  exact h.now p0 r
theorem snd_cont : PS X (.Continue pos) (TSt G P eA W A0 (evS G.tb Φ b0 .cont)) := by
  refine ps_continue.wk fun D σ H ⟨s, F, A, p0, r, h⟩ => ?_
  rw [evS] at h
  exact h.now p0 r
theorem snd_pass : PS X (.Pass pos) (TSt G P eA W A0 (evS G.tb Φ b0 .pass)) := by
  refine ps_pass.wk fun D σ H ⟨s, F, A, p0, r, h⟩ => ?_
  rw [evS] at h
  exact h.now p0 r
theorem snd_ifs {t : T} {a b : Bl} {v : Expr} {xs ys : List Stmt} (ht : PT X v (TBo G P eA W (evT G.tb Φ t))) (ha : PSs X xs (TSt G P eA W A0 (evB G.tb Φ b0 a))) (hb : PSs X ys (TSt G P eA W A0 (evB G.tb Φ b0 b))) :
    PS X (.If v xs ys pos) (TSt G P eA W A0 (evS G.tb Φ b0 (.ifs t a b))) := by
  refine (ps_if ht ha hb).wk fun D σ H ⟨s, F, A, p0, r, h⟩ => ?_
  rw [evS] at h
  refine TBo.ofS p0 r h fun bb s1 F1 A1 H1 e1 p1' r1 q1 => ?_
  cases bb with
  | true => exact ⟨s1, F1, A1, p1', r1, q1⟩
  | false => exact ⟨s1, F1, A1, p1', r1, q1⟩

/-! ### suites -/
theorem snd_nil : PSs X [] (TSt G P eA W A0 (evB G.tb Φ b0 .nil)) := by
  refine pss_nil.wk fun D σ H ⟨s, F, A, p0, r, h⟩ => ?_
  rw [evB] at h
  exact h.now p0 r
theorem snd_cons {st : GF.St} {b : Bl} {x : Stmt} {xs : List Stmt} (h1 : PS X x (TSt G P eA W A0 (evS G.tb Φ b0 st))) (h2 : PSs X xs (TSt G P eA W A0 (evB G.tb Φ b0 b))) : PSs X (x :: xs) (TSt G P eA W A0 (evB G.tb Φ b0 (.cons st b))) := by
  refine (pss_cons h1 h2).wk fun D σ H ⟨s, F, A, p0, r, h⟩ => ?_
  rw [evB] at h
  refine ⟨s, F, A, p0, r, ?_⟩
  cases hh : evS G.tb Φ b0 st s with
  | exc c fs s' => rw [hh] at h; exact h
  | stuck => rw [hh] at h; exact h
  | ok f s' =>
    rw [hh] at h
    cases f with
    | next => exact fun σ1 F1 A1 H1 e1 p1 r1 => ⟨s', F1, A1, p1, r1, PstS.mono e1 h⟩
    | brk => exact h
    | cont => exact h
    | ret v => exact h
theorem belowS_spec {n : Nat} : ∀ {ρ : List (Option Sl)}, belowS n ρ = true → ∀ (i j : Nat), ρ[i]? = some (some (.ref j)) → j < n
  | [], _, i, j, e => by simp at e
  | x :: r, h, i, j, e => by
    cases i with
    | zero =>
      simp at e
      subst e
      simp [belowS] at h
      exact h.1
    | succ i =>
      simp at e
      refine belowS_spec (ρ := r) ?_ i j e
      cases x with
      | none => exact h
      | some v => cases v <;> first | exact h | (simp only [belowS, Bool.and_eq_true] at h; exact h.2)
theorem forget_get : ∀ {is : List Nat} {ρ : List (Option Sl)} {i : Nat} {v : Sl}, (forget is ρ)[i]? = some (some v) → ρ[i]? = some (some v)
  | [], _, _, _, h => h
  | j :: is, ρ, i, v, h => by
    have h' := forget_get (is := is) h
    by_cases z : i = j
    · subst z
      by_cases hj : i < ρ.length
      · rw [List.getElem?_set_self hj] at h'; cases h'
      · rw [List.getElem?_eq_none (by simp; omega)] at h'; cases h'
    · rw [List.getElem?_set_ne (Ne.symm z)] at h'; exact h'
theorem forget_len : ∀ (is : List Nat) (ρ : List (Option Sl)), (forget is ρ).length = ρ.length
  | [], _ => rfl
  | j :: is, ρ => by rw [forget, forget_len is]; simp
theorem RelS.forgotten {s : S} {F : Hp} {A : List Ad} {σ : St'} {H : Hp} (r : RelS G P eA s F A σ H) (is : List Nat) : RelS G P eA ⟨forget is s.ρ, s.M⟩ F A σ H :=
  ⟨r.mem, fun i v e => r.slots i v (forget_get e), by rw [forget_len, r.slen]⟩
/-- the slots that stand below n, the cells above n dropped -/
theorem RelS.below {s : S} {F : Hp} {A : List Ad} {σ : St'} {H : Hp} {n : Nat} (r : RelS G P eA s F A σ H) (h : belowS n s.ρ = true) : RelS G P eA ⟨s.ρ, s.M.take n⟩ F (A.take n) σ H := by
  refine ⟨r.mem.trunc n, fun i v e => ?_, r.slen⟩
  obtain ⟨u, k1, k2⟩ := r.slots i v e
  refine ⟨u, k1, ?_⟩
  cases v with
  | d x => exact k2
  | exn c fs => exact k2
  | ref j =>
    obtain ⟨a, k3, k4⟩ := k2
    exact ⟨a, by rw [List.getElem?_take, if_pos (belowS_spec h i j e)]; exact k3, k4⟩
theorem RelS.cleaned {s : S} {F : Hp} {A : List Ad} {σ : St'} {H : Hp} {n : Nat} {fg : List Nat} (r : RelS G P eA s F A σ H) (h : belowS n (forget fg s.ρ) = true) : RelS G P eA (clean fg n s) F (A.take n) σ H :=
  (r.forgotten fg).below h
theorem snd_gh {g : GF.G} {b : Bl} {xs : List Stmt} (hb : b0 = A0.length) (h2 : PSs X xs (TSt G P eA W A0 (evB G.tb Φ b0 b))) : PSs X xs (TSt G P eA W A0 (evB G.tb Φ b0 (.gh g b))) := by
  refine h2.wk fun D σ H ⟨s, F, A, p0, r, h⟩ => ?_
  rw [evB] at h
  cases g with
  | forget is =>
    rw [ghost, R.bind_ok] at h
    exact ⟨_, F, A, p0, r.forgotten is, h⟩
  | frz i =>
    rw [ghost] at h
    split at h
    case h_2 => exact h.elim
    rename_i j hj
    split at h
    case h_2 => exact h.elim
    rename_i xs hm
    split at h
    case isFalse => exact h.elim
    rename_i hh
    obtain ⟨u, hu, a, ha, rfl⟩ := r.get hj
    obtain ⟨vs, hH, hr⟩ := r.mem.at_ ha hm
    have f1 := (r.mem.cells j a _ ha hm).1
    have hi : i < s.ρ.length := by rw [r.slen]; exact (List.getElem?_eq_some_iff.mp hu).1
    have r1 := (r.unset i).below hh.2.2
    have e' : Ext F (upd F a (.lst vs)) := Ext.new f1
    have r2 : RelS G P eA ⟨s.ρ.set i none, s.M.take j⟩ (upd F a (.lst vs)) (A.take j) σ H := r1.mono' e' (r1.mem.freeze f1 (P_none r.mem ha) (take_not r.mem.nd ha) hH)
    have r3 := r2.put (i := i) (v := .d (.lst xs)) (u := .ref a) (.lst upd_same (hr.mono e')) (by simpa using hi)
    have eσ : σ.set i (some (V.ref a)) = σ := by
      refine List.ext_getElem? fun l => ?_
      by_cases hl : l = i
      · subst hl
        rw [List.getElem?_set_self (by rw [← r.slen]; exact hi), hu]
      · rw [List.getElem?_set_ne (Ne.symm hl)]
    rw [eσ] at r3
    rw [R.bind_ok] at h
    refine ⟨_, _, _, pre_take p0 (by rw [← hb]; exact hh.1), ?_, PstS.mono e' h⟩
    have : (⟨s.ρ.set i (some (.d (.lst xs))), s.M.take j⟩ : S) = S.put ⟨s.ρ.set i none, s.M.take j⟩ i (.d (.lst xs)) := by
      unfold S.put
      rw [List.set_set]
    rw [this]
    exact r3
end
end GF

set_option Elab.async false
set_option linter.all false
set_option maxRecDepth 100000
set_option autoImplicit false
set_option maxHeartbeats 1000000
namespace GF
open PySem PySem.Spec PyProof.Rows L2

/-- what is walked, slot by slot -/
structure WalkS (G : Ge) (F : Hp) (A : List Ad) (eA : EA) (xs : List Sl) (J : L2.It) : Prop where
  go : ∀ (i : Nat) (H : Hp), Ext F H → i < xs.length → J.go i H
  stop : ∀ (H : Hp), Ext F H → J.stop xs.length H
  yld : ∀ (i : Nat) (H : Hp) (v : V) (H' : Hp) (x : Sl), Ext F H → xs[i]? = some x → J.yld i H v H' → (H' = H ∧ RepS G F A eA x v) ∨ ∃ p vs ds, H p = none ∧ H' = upd H p (.tup vs) ∧ v = .ref p ∧ x = .d (.tup ds) ∧ Reps G F ds vs
theorem WalkOf.toS {G : Ge} {F : Hp} {A : List Ad} {eA : EA} {xs : List D} {J : L2.It} (h : WalkOf G F xs J) : WalkS G F A eA (xs.map .d) J where
  go := fun i H e hi => h.go i H e (by simpa using hi)
  stop := fun H e => h.stop _ H e (by simp)
  yld := fun i H v H' x e hx hy => by
    rw [List.getElem?_map] at hx
    obtain ⟨d, hd, rfl⟩ := Option.map_eq_some_iff.mp hx
    rcases h.yld i H v H' d e hd hy with ⟨h1, h2⟩ | ⟨p, vs, ds, h1, h2, h3, h4, h5⟩
    · exact .inl ⟨h1, h2⟩
    · exact .inr ⟨p, vs, ds, h1, h2, h3, by rw [h4], h5⟩
/-- what stays true of the items -/
def Keeps (A1 A0 : List Ad) (n : Nat) (xs : List Sl) : Prop := ∀ x ∈ xs, (∃ d, x = .d d) ∨ A0 = A1
theorem keeps_data {A1 A0 : List Ad} {n : Nat} (xs : List D) : Keeps A1 A0 n (xs.map .d) := fun x hx => by
  obtain ⟨d, _, rfl⟩ := List.mem_map.mp hx
  exact .inl ⟨d, rfl⟩
section
variable {X : Cx} {ti : Ti} {G : Ge} {Φ : Nat → FM} {k : Nat} {eA : EA} {c : Cs} {P : Hp} {W : WX} {A0 : List Ad} {pos p px : Pos} {b0 : Nat}
variable {F F1 : Hp} {A A1 A0' : List Ad} {σ : St'} {H : Hp} {s s1 : S} {D : Ends} {fg : List Nat} {n : Nat} {body : S → R GF.Flow}
theorem turn_read {N : St' → Hp → Prop} {r : R GF.Flow} {kk : S → R GF.Flow} (h00 : A0 <+: A0') (hn : A0'.length ≤ n) (h : PstS G P eA W A0 D F (GF.turn fg n r kk))
    (hN : ∀ σ F' A' H' s', Ext F F' → A0' <+: A' → s'.M.length = n → RelS G P eA s' F' A' σ H' → PstS G P eA W A0 D F' (kk s') → N σ H') : PstS G P eA W A0' { D with nx := N, ct := N, bk := D.nx } F r := by
  have clr : ∀ {s2 : S}, n ≤ s2.M.length → (clean fg n s2).M.length = n := fun {s2} h => by
    show (s2.M.take n).length = n
    rw [List.length_take]; omega
  cases r with
  | stuck => exact h
  | exc c fs s2 => exact fun C d σ F' A' H' e p r' x => h C d σ F' A' H' e (h00.trans p) r' x
  | ok f s2 =>
    intro σ F' A' H' e p r'
    cases f with
    | next =>
      unfold GF.turn at h
      simp only at h
      split at h
      · rename_i hh
        exact hN σ F' (A'.take n) H' (clean fg n s2) e (pre_take p hn) (clr hh.1) (r'.cleaned hh.2) (PstS.mono e h)
      · exact h.elim
    | cont =>
      unfold GF.turn at h
      simp only at h
      split at h
      · rename_i hh
        exact hN σ F' (A'.take n) H' (clean fg n s2) e (pre_take p hn) (clr hh.1) (r'.cleaned hh.2) (PstS.mono e h)
      · exact h.elim
    | brk =>
      unfold GF.turn at h
      simp only at h
      split at h
      · rename_i hh
        exact (PstS.mono e h).now (h00.trans (pre_take p hn)) (r'.cleaned hh.2)
      · exact h.elim
    | ret v => exact h σ F' A' H' e (h00.trans p) r'
/-- what binding an item is -/
def BindOk (G : Ge) (P : Hp) (eA : EA) (bind : Sl → S → R Unit) (g : TG) : Prop := ∀ (x : Sl) (s : S) (σ : St') (F : Hp) (A : List Ad) (H : Hp) (v : V) (K : St' → Hp → Prop), RelS G P eA s F A σ H → RepS G F A eA x v →
  bind x s = .stuck ∨ ∃ s', bind x s = .ok () s' ∧ ((∀ σ', RelS G P eA s' F A σ' H → K σ' H) → g v σ H K)
theorem for_read {xs : List Sl} {J : L2.It} {bind : Sl → S → R Unit} {g : TG} {tb : TS} (h00 : A0 <+: A0') (h01 : A0' <+: A1) (hn : s1.M.length = n) (r1 : RelS G P eA s1 F1 A1 σ H) (hw : WalkS G F1 A1 eA xs J) (hk : Keeps A1 A0' n xs) (hg : BindOk G P eA bind g)
    (hb : ∀ D σ H, TSt G P eA W A0' body D σ H → tb D σ H) (h : PstS G P eA W A0 D F1 (forGo bind body fg n xs s1)) :
    ∃ Wm : Nat → Nat → St' → Hp → Prop, (∃ m, Wm 0 m σ H) ∧ ∀ i m σ H, Wm i m σ H →
      (J.stop i H ∧ D.nx σ H) ∨ (J.go i H ∧ ∃ N : St' → Hp → Prop, (∀ σ' H', N σ' H' → ∃ m', m' < m ∧ Wm (i + 1) m' σ' H') ∧ ∀ x H', J.yld i H x H' → g x σ H' fun σ2 H2 => tb { D with nx := N, ct := N, bk := D.nx } σ2 H2) := by
  have hn' : A0'.length ≤ n := by rw [← hn, ← r1.mem.len]; exact h01.length_le
  let Iv : Nat → St' → Hp → Prop := fun i σ H => i ≤ xs.length ∧ ∃ s F A, Ext F1 F ∧ A0' <+: A ∧ s.M.length = n ∧ RelS G P eA s F A σ H ∧ PstS G P eA W A0 D F (forGo bind body fg n (xs.drop i) s)
  refine ⟨fun i m σ H => m = xs.length - i ∧ Iv i σ H, ⟨xs.length, by simp, Nat.zero_le _, s1, F1, A1, Ext.refl, h01, hn, r1, by rw [List.drop_zero]; exact h⟩, ?_⟩
  rintro i m σ H ⟨rfl, hi, s, F, A, e, pA, hl, r, q⟩
  have ex : Ext F1 H := e.trans r.mem.ex
  by_cases hlt : i < xs.length
  case neg =>
    have ei : i = xs.length := by omega
    subst ei
    rw [List.drop_length, forGo] at q
    exact .inl ⟨hw.stop H ex, q.now (h00.trans pA) r⟩
  refine .inr ⟨hw.go i H ex hlt, fun σ' H' => Iv (i + 1) σ' H', fun σ' H' p => ⟨xs.length - (i + 1), by omega, rfl, p⟩, fun v H' y => ?_⟩
  have hd : xs[i]? = some xs[i] := List.getElem?_eq_getElem hlt
  rw [List.drop_eq_getElem_cons hlt, forGo] at q
  have item : RepS G F1 A1 eA xs[i] v → RepS G F A eA xs[i] v := fun hv => by
    rcases hk xs[i] (List.getElem_mem hlt) with ⟨d, hx⟩ | h1
    · rw [hx] at hv ⊢
      exact Rep.mono e hv
    · exact hv.mono e (h1 ▸ pA)
  have bound : ∃ F4, Ext F F4 ∧ RelS G P eA s F4 A σ H' ∧ RepS G F4 A eA xs[i] v := by
    rcases hw.yld i H v H' xs[i] ex hd y with ⟨rfl, rx⟩ | ⟨p, vs, ds, hp, rfl, rfl, ed, rd⟩
    · exact ⟨F, Ext.refl, r, item rx⟩
    · have fp : F p = none := r.mem.ex.back hp
      refine ⟨upd F p (.tup vs), Ext.new fp, r.mono' (Ext.new fp) (r.mem.laid hp), ?_⟩
      rw [ed]
      exact .tup (.inl (.inl upd_same)) (rd.mono (e.trans (Ext.new fp)))
  obtain ⟨F4, e4, r4, rx⟩ := bound
  have q4 := PstS.mono e4 q
  rcases hg xs[i] s σ F4 A H' v (fun σ2 H2 => tb { D with nx := fun σ' H' => Iv (i + 1) σ' H', ct := fun σ' H' => Iv (i + 1) σ' H', bk := D.nx } σ2 H2) r4 rx with hs | ⟨s', hs, hgo⟩
  · rw [hs] at q4
    exact q4.elim
  · rw [hs, R.bind_ok] at q4
    refine hgo fun σ' r' => hb _ _ _ ⟨s', F4, A, pA, r', turn_read h00 hn' q4 fun σ2 F2 A2 H2 s2 e2 p2 l2 r2 q2 => ⟨by omega, s2, F2, A2, (e.trans e4).trans e2, p2, l2, r2, q2⟩⟩
theorem setOne_ok {i : Nat} : BindOk G P eA (setOne i) (gName i) := by
  intro x s σ F A H v K r rx
  unfold setOne
  split
  · exact .inl rfl
  · split
    · exact .inr ⟨_, rfl, fun h => h _ (r.put rx (by assumption))⟩
    · exact .inl rfl
theorem setTwo_ok {i j : Nat} (hK : G.K = X.K) : BindOk G P eA (setTwo i j) (gTup X.K 2 (gSlots [i, j])) := by
  intro x s σ F A H v K r rx
  unfold setTwo
  split
  · rename_i a b
    split
    · rename_i hh
      obtain ⟨p, vs, rfl, h1, h2⟩ := Rep.tup_ rx
      refine .inr ⟨_, rfl, fun h => ⟨p, vs, rfl, hK ▸ ext_t r.mem.ex h1, by rw [h2.length]; rfl, gSlots_run (s' := (s.put i (.d a)).put j (.d b)) r h2 ?_ h⟩⟩
      rw [putMany, if_pos hh.1, putMany, if_pos (by simpa [S.put] using hh.2), putMany]
    · exact .inl rfl
  · exact .inl rfl
theorem snd_for1 {i : Nat} {it : GF.It} {b : Bl} {x : Str} {v : Expr} {sts : List Stmt} (hX : SOk ti G Φ k eA c X) (tk : Takes X W) (hc : c.calm = true) (hs : slotL c i x = true) (hi : okI ti c it v = true) (hb : PSs X sts (TSt G P eA W A0 (evB G.tb Φ b0 b))) :
    PS X (.For (.Name x px) v sts [] pos) (TSt G P eA W A0 (evS G.tb Φ b0 (.for1 i it fg b))) := by
  obtain ⟨h1, h2, h3⟩ := slotL_of hX.toXOk hs
  refine (ps_for hX.po (hX.calm hc) (sndI it (P := P) hX.toXOk tk hi) (pg_name hX.nd h1 h2 (.inl (hX.fn x))) hb (fold_of (okI_fold hi) _)).wk fun D σ H ⟨s, F, A, p0, r, h⟩ => ?_
  rw [evS] at h
  refine ⟨s, F, A, r, (PstS.split h p0).imp fun xs s1 F1 A1 H1 e1 p1 r1 q1 J F2 e2 r2 hw => ?_⟩
  split at q1
  case isFalse => exact q1.elim
  rename_i hbl
  have hlen : (clean fg s1.M.length s1).M.length = s1.M.length := by
    show (s1.M.take s1.M.length).length = _
    rw [List.take_length]
  have hA1 : A1.take s1.M.length = A1 := by rw [← r1.mem.len, List.take_length]
  have rc := r2.cleaned hbl
  rw [hA1] at rc
  exact for_read (List.prefix_refl _) (p0.trans p1) hlen rc hw.toS (keeps_data xs) setOne_ok (fun D σ H q => q) (PstS.mono e2 q1)

/-! ### over what is written out -/
theorem RepSs.get {F : Hp} {A : List Ad} : ∀ {xs : List Sl} {us : List V} {i : Nat} {x : Sl}, RepSs G F A eA xs us → xs[i]? = some x → ∃ u, us[i]? = some u ∧ RepS G F A eA x u
  | _, _, _, _, .nil, e => by simp at e
  | _, _, 0, _, .cons r _, e => by simp at e; subst e; exact ⟨_, rfl, r⟩
  | _, _, i + 1, x, .cons _ t, e => by
    obtain ⟨u, h1, h2⟩ := RepSs.get (i := i) (x := x) t (by simpa using e)
    exact ⟨u, by simpa using h1, h2⟩
theorem walkS_list {K : PySem.W.Frag} {xs : List Sl} {a : Ad} {us : List V} (h : SqL K F a us) (r : RepSs G F A eA xs us) : WalkS G F A eA xs (Itl K a) where
  go := fun i H e hi => ⟨us, us[i]'(by rw [← Paired.length r]; exact hi), ext_l e h, List.getElem?_eq_getElem _⟩
  stop := fun H e => ⟨us, ext_l e h, by rw [← Paired.length r]; exact Nat.le_refl _⟩
  yld := fun i H v H' x e hx ⟨h1, h2⟩ => by
    obtain ⟨u, hu, ru⟩ := RepSs.get r hx
    have := h2 us (ext_l e h)
    rw [hu] at this
    cases this
    exact .inl ⟨h1, ru⟩
theorem walkS_tup {K : PySem.W.Frag} {xs : List Sl} {a : Ad} {us : List V} (h : SqT K F a us) (r : RepSs G F A eA xs us) : WalkS G F A eA xs (Itt K a) where
  go := fun i H e hi => ⟨us, us[i]'(by rw [← Paired.length r]; exact hi), ext_t e h, List.getElem?_eq_getElem _⟩
  stop := fun H e => ⟨us, ext_t e h, by rw [← Paired.length r]; exact Nat.le_refl _⟩
  yld := fun i H v H' x e hx ⟨h1, h2⟩ => by
    obtain ⟨u, hu, ru⟩ := RepSs.get r hx
    have := h2 us (ext_t e h)
    rw [hu] at this
    cases this
    exact .inl ⟨h1, ru⟩
def TDis (G : Ge) (P : Hp) (eA : EA) (W : WX) (m : S → R (List Sl)) (mk : List V → HO) (J : Ad → L2.It) : TI := fun σ H R => ∃ s F A, RelS G P eA s F A σ H ∧ PstE G P eA W F A σ (m s) fun vs _ F' A' H' => ∀ us, RepSs G F' A' eA vs us → us.length ≤ sizeLine ∧ ∀ q, H' q = none → R (J q) (upd H' q (mk us))
theorem pi_dlst {tg : Expr} {es : List Expr} {m : S → R (List Sl)} (ha : PA X es (TAr G P eA W m)) : PI X tg (.List es pos) (TDis G P eA W m .lst (Itl X.K)) := by
  refine ⟨fun pins s σ H R I ⟨s0, F, A, r, h⟩ => thn ((pe_lst ha).run pins s σ H (fun u H1 => ∃ q us, u = .ref q ∧ H1 q = some (.lst us) ∧ R (Itl X.K q) H1) I ⟨s0, F, A, r, h.imp fun vs s' F' A' H' e p r' q us rus => ?_⟩) fun v s1 hh => ?_⟩
  · obtain ⟨q1, q2⟩ := q us rus
    exact ⟨q1, fun q hq => ⟨q, us, rfl, upd_same, q2 q hq⟩⟩
  · obtain ⟨u, H1, I1, rv, q, us, rfl, h1, h2⟩ := hh
    cases rv
    exact it_list I1 (SqL.of h1) h2
theorem pi_dtup {tg : Expr} {es : List Expr} {kk} {m : S → R (List Sl)} (ha : PA X es (TAr G P eA W m)) : PI X tg (.Tuple es kk pos) (TDis G P eA W m .tup (Itt X.K)) := by
  refine ⟨fun pins s σ H R I ⟨s0, F, A, r, h⟩ => thn ((pe_tup ha).run pins s σ H (fun u H1 => ∃ q us, u = .ref q ∧ H1 q = some (.tup us) ∧ R (Itt X.K q) H1) I ⟨s0, F, A, r, h.imp fun vs s' F' A' H' e p r' q us rus => ?_⟩) fun v s1 hh => ?_⟩
  · obtain ⟨q1, q2⟩ := q us rus
    exact ⟨q1, fun q hq => ⟨q, us, rfl, upd_same, q2 q hq⟩⟩
  · obtain ⟨u, H1, I1, rv, q, us, rfl, h1, h2⟩ := hh
    cases rv
    exact it_tup I1 (SqT.of h1) h2
theorem forD_read {i : Nat} {as : As} {b : Bl} {mk : List V → HO} {J : Ad → L2.It} {D : Ends} (hl : lenA as ≤ 1000) (hJ : ∀ {F A xs a us}, F a = some (mk us) → RepSs G F A eA xs us → WalkS G F A eA xs (J a)) (h : TSt G P eA W A0 (evS G.tb Φ b0 (.forD i as fg b)) D σ H) :
    tFor (TDis G P eA W (evA G.tb Φ as) mk J) (gName i) (fun D σ H => ∃ A0', TSt G P eA W A0' (evB G.tb Φ A0'.length b) D σ H) D σ H := by
  obtain ⟨s, F, A, p0, r, h⟩ := h
  rw [evS] at h
  refine ⟨s, F, A, r, ?_⟩
  have hv : ∀ vs s', evA G.tb Φ as s = .ok vs s' → vs.length ≤ 1000 := fun vs s' e => by rw [evA_len e]; exact hl
  have h' := PstS.split (σ := σ) h p0
  revert h'
  cases he : evA G.tb Φ as s with
  | stuck => exact fun h' => h'.elim
  | exc c fs s' => exact fun h' => h'
  | ok xs s1 =>
    intro h' F1 A1 H1 e1 p1 r1 us rus
    have q1 := h' F1 A1 H1 e1 p1 r1
    refine ⟨by rw [← Paired.length rus, sizeLine_eq]; have := hv xs s1 he; omega, fun q hq => ?_⟩
    simp only at q1
    split at q1
    case isFalse => exact q1.elim
    rename_i hbl
    have e' : Ext F1 (upd F1 q (mk us)) := Ext.new (r1.mem.ex.back hq)
    have hlen : (clean fg s1.M.length s1).M.length = s1.M.length := by
      show (s1.M.take s1.M.length).length = _
      rw [List.take_length]
    have hA1 : A1.take s1.M.length = A1 := by rw [← r1.mem.len, List.take_length]
    have rc := (r1.mono' e' (r1.mem.laid (o := mk us) hq)).cleaned hbl
    rw [hA1] at rc
    refine for_read (tb := fun D σ H => ∃ A0', TSt G P eA W A0' (evB G.tb Φ A0'.length b) D σ H) (body := evB G.tb Φ s1.M.length b) (A0' := A1) (p0.trans p1) (List.prefix_refl _) hlen rc (hJ upd_same (RepSs.mono e' (List.prefix_refl _) rus)) (fun x _ => .inr rfl) setOne_ok (fun D σ H q => ⟨A1, by rw [r1.mem.len]; exact q⟩) (PstS.mono e' q1)
theorem snd_forD {i : Nat} {as : As} {b : Bl} {x : Str} {v : Expr} {sts : List Stmt} (hX : SOk ti G Φ k eA c X) (tk : Takes X W) (hc : c.calm = true) (hs : slotL c i x = true)
    (hv : (match v with | .List es _ => okA ti c as es && decide (es.length ≤ 1000) | .Tuple es _ _ => okA ti c as es && decide (es.length ≤ 1000) | _ => false) = true) (hb : ∀ A0' : List Ad, PSs X sts (TSt G P eA W A0' (evB G.tb Φ A0'.length b))) :
    PS X (.For (.Name x px) v sts [] pos) (TSt G P eA W A0 (evS G.tb Φ b0 (.forD i as fg b))) := by
  obtain ⟨h1, h2, h3⟩ := slotL_of hX.toXOk hs
  have hb' : PSs X sts (fun D σ H => ∃ A0', TSt G P eA W A0' (evB G.tb Φ A0'.length b) D σ H) := ⟨fun pins s σ H D I ⟨A0', q⟩ => (hb A0').run pins s σ H D I q⟩
  split at hv
  · rw [Bool.and_eq_true, decide_eq_true_eq] at hv
    exact (ps_for hX.po (hX.calm hc) (pi_dlst (sndA as (P := P) hX.toXOk tk hv.1)) (pg_name hX.nd h1 h2 (.inl (hX.fn x))) hb' (fun _ => rfl)).wk fun D σ H h => forD_read (by rw [← okA_len hv.1]; exact hv.2) (fun h r => walkS_list (SqL.of h) r) h
  · rw [Bool.and_eq_true, decide_eq_true_eq] at hv
    exact (ps_for hX.po (hX.calm hc) (pi_dtup (sndA as (P := P) hX.toXOk tk hv.1)) (pg_name hX.nd h1 h2 (.inl (hX.fn x))) hb' (fun _ => rfl)).wk fun D σ H h => forD_read (by rw [← okA_len hv.1]; exact hv.2) (fun h r => walkS_tup (SqT.of h) r) h
  · cases hv

/-! ### over a list as it stands -/
theorem snd_forC {i src m : Nat} {b : Bl} {x y : Str} {py : Pos} {sts : List Stmt} (hX : SOk ti G Φ k eA c X) (hc : c.calm = true) (hs : slotL c i x = true) (hy : slotB c src y = true) (hb : ∀ A0' : List Ad, PSs X sts (TSt G P eA W A0' (evB G.tb Φ A0'.length b))) :
    PS X (.For (.Name x px) (.Name y py) sts [] pos) (TSt G P eA W A0 (evS G.tb Φ b0 (.forC i src m fg b))) := by
  obtain ⟨h1, h2, h3⟩ := slotL_of hX.toXOk hs
  obtain ⟨y1, y2, y3, y4⟩ := slot_of hX.toXOk hy
  have hb' : PSs X sts (fun D σ H => ∃ A0', TSt G P eA W A0' (evB G.tb Φ A0'.length b) D σ H) := ⟨fun pins s σ H D I ⟨A0', q⟩ => (hb A0').run pins s σ H D I q⟩
  refine (ps_for hX.po (hX.calm hc) (pi_list (pe_var y1 y2 y3 y4)) (pg_name hX.nd h1 h2 (.inl (hX.fn x))) hb' (fun _ => rfl)).wk fun D σ H ⟨s, F, A, p0, r, h⟩ => ?_
  rw [evS] at h
  split at h
  case h_2 => exact h.elim
  rename_i j hj
  split at h
  case isFalse => exact h.elim
  rename_i hbl
  obtain ⟨u, hu, a, ha, rfl⟩ := r.get hj
  have hlen : (clean fg s.M.length s).M.length = s.M.length := by
    show (s.M.take s.M.length).length = _
    rw [List.take_length]
  have hA1 : A.take s.M.length = A := by rw [← r.mem.len, List.take_length]
  have rc := r.cleaned hbl
  rw [hA1] at rc
  have hjA : j < A.length := (List.getElem?_eq_some_iff.mp ha).1
  have hlst : ∃ xs, SqL X.K H a xs := by
    cases m with
    | zero => rw [liveGo] at h; exact h.elim
    | succ m =>
      rw [liveGo] at h
      split at h
      · rename_i xs hm
        obtain ⟨vs, k1, _⟩ := rc.mem.at_ ha hm
        exact ⟨vs, SqL.of k1⟩
      · exact h.elim
  refine ⟨_, hu, a, rfl, hlst, ?_⟩
  let Iv : Nat → Nat → St' → Hp → Prop := fun i' m' σ H => ∃ s' F' A', Ext F F' ∧ A <+: A' ∧ s'.M.length = s.M.length ∧ RelS G P eA s' F' A' σ H ∧ PstS G P eA W A0 D F' (liveGo (setOne i) (evB G.tb Φ s.M.length b) fg s.M.length j m' i' s')
  refine ⟨Iv, ⟨m, _, F, A, Ext.refl, List.prefix_refl _, hlen, rc, h⟩, ?_⟩
  rintro i' m' σ' H' ⟨s', F', A', e, pA, hl, r', q⟩
  cases m' with
  | zero => rw [liveGo] at q; exact q.elim
  | succ m' =>
    rw [liveGo] at q
    have ha' := pre_get pA ha
    split at q
    case h_2 => exact q.elim
    rename_i xs hm
    obtain ⟨vs, k1, k2⟩ := r'.mem.at_ ha' hm
    split at q
    · rename_i hx
      exact .inl ⟨⟨vs, SqL.of k1, by rw [k2.length]; exact List.getElem?_eq_none_iff.mp hx⟩, q.now (p0.trans pA) r'⟩
    · rename_i d hx
      obtain ⟨v, hv, rv⟩ := k2.get hx
      refine .inr ⟨⟨vs, v, SqL.of k1, hv⟩, fun σ2 H2 => Iv (i' + 1) m' σ2 H2, fun σ2 H2 p => ⟨m', Nat.lt_succ_self _, p⟩, fun z H2 ⟨e2, hz⟩ => ?_⟩
      subst e2
      have := hz vs (SqL.of k1)
      rw [hv] at this
      cases this
      have q4 := q
      rcases setOne_ok (i := i) (.d d) s' σ' F' A' H2 v (fun σ2 H2 => ∃ A0', TSt G P eA W A0' (evB G.tb Φ A0'.length b) { D with nx := fun σ' H' => Iv (i' + 1) m' σ' H', ct := fun σ' H' => Iv (i' + 1) m' σ' H', bk := D.nx } σ2 H2) r' rv with hs | ⟨s2, hs, hgo⟩
      · rw [hs] at q4
        exact q4.elim
      · rw [hs, R.bind_ok] at q4
        refine hgo fun σ2 r2 => ⟨A, s2, F', A', pA, r2, ?_⟩
        rw [r.mem.len]
        exact turn_read (A0' := A) p0 (by rw [r.mem.len]; exact Nat.le_refl _) q4 fun σ3 F3 A3 H3 s3 e3 p3 l3 r3 q3 => ⟨s3, F3, A3, e.trans e3, p3, l3, r3, q3⟩

/-! ### while -/
theorem snd_whl {m : Nat} {t : T} {b : Bl} {v : Expr} {sts : List Stmt} (hX : SOk ti G Φ k eA c X) (ht : PT X v (TBo G P eA W (evT G.tb Φ t))) (hb : PSs X sts (TSt G P eA W A0 (evB G.tb Φ b0 b))) :
    PS X (.While v sts [] pos) (TSt G P eA W A0 (evS G.tb Φ b0 (.whl m t fg b))) := by
  refine (ps_while hX.po ht hb).wk fun D σ H ⟨s, F, A, p0, r, h⟩ => ?_
  rw [evS] at h
  split at h
  case isFalse => exact h.elim
  rename_i hbl
  have hlen : (clean fg s.M.length s).M.length = s.M.length := by
    show (s.M.take s.M.length).length = _
    rw [List.take_length]
  have hA1 : A.take s.M.length = A := by rw [← r.mem.len, List.take_length]
  have rc := r.cleaned hbl
  rw [hA1] at rc
  have hn : A0.length ≤ s.M.length := by rw [← r.mem.len]; exact p0.length_le
  let Wm : Nat → St' → Hp → Prop := fun m' σ H => ∃ s' F' A', A0 <+: A' ∧ s'.M.length = s.M.length ∧ RelS G P eA s' F' A' σ H ∧ PstS G P eA W A0 D F' (whileGo (evT G.tb Φ t) (evB G.tb Φ b0 b) fg s.M.length m' s')
  refine ⟨Wm, ⟨m, _, F, A, p0, hlen, rc, h⟩, ?_⟩
  rintro m' σ' H' ⟨s', F', A', pA, hl, r', q⟩
  cases m' with
  | zero => rw [whileGo] at q; exact q.elim
  | succ m' =>
    rw [whileGo] at q
    refine TBo.ofS pA r' q fun bb s1 F1 A1 H1 e1 p1 r1 q1 => ?_
    cases bb with
    | false => exact q1.now p1 r1
    | true =>
      exact ⟨fun σ2 H2 => Wm m' σ2 H2, fun σ2 H2 p => ⟨m', Nat.lt_succ_self _, p⟩, s1, F1, A1, p1, r1, turn_read (A0' := A0) (List.prefix_refl _) hn q1 fun σ3 F3 A3 H3 s3 e3 p3 l3 r3 q3 => ⟨s3, F3, A3, p3, l3, r3, q3⟩⟩
end
end GF

set_option Elab.async false
set_option linter.all false
set_option maxRecDepth 100000
set_option autoImplicit false
set_option maxHeartbeats 1000000
namespace GF
open PySem PySem.Spec PyProof.Rows L2

/-! ### enumerate(v), v told by what its iterator draws -/
set_option maxHeartbeats 4000000 in
theorem meets_enum1 {v : Value} {o : Obj} {H : Heap → Prop} (B : Begins v o H) :
    Meets (Builtin.«enumerate.__new__» ⟨[.type "enumerate", v], []⟩) (fun _ R s => H s.heap ∧
      R (.ok (.ret (.ref (s.heap.push o).objs.size))) { s with heap := (s.heap.push o).push { cls := .type "enumerate", data := .fields #[.none, .bool false, .ref s.heap.objs.size, rawInt 0, .none, .none] } }) :=
  .of_wp fun prog w A R s h => by
    obtain ⟨hp, g, d, tk, os⟩ := s; obtain ⟨h1, h⟩ := h
    have hsub := sub_enumerate
    have q1 : ∀ {A' : Around} {E : Value → Shared → Prop} {Q : Value → Shared → Prop}, Q (.ref hp.objs.size) ⟨hp.push o, g, d, tk, os⟩ → wpAny (model prog w) A' (pyIter v) Q E ⟨hp, g, d, tk, os⟩ :=
      fun q => B.iter prog w _ _ ⟨hp, g, d, tk, os⟩ _ h1 q
    wp_walk using q1
    refine wpAny_stack_any fun st => wpAny_pure ?_
    split
    · rename_i c _ _ _ _ _
      cases (c == Value.type "enumerate")
      · wp_walk using q1
        exact ⟨_, rfl, h⟩
      · wp_walk using q1
        exact ⟨_, rfl, h⟩
    · wp_walk using q1
      exact ⟨_, rfl, h⟩
theorem call_enum1 {prog : Program} {w : World} {A : Around} {E : Value → Shared → Prop} {s : Shared} {v : Value} {o : Obj} {H : Heap → Prop} {Q : Value → Shared → Prop} (B : Begins v o H) (h1 : H s.heap)
    (h : ∀ h', IsEnum h' (s.heap.objs.size + 1) s.heap.objs.size 0 .none → h'.get? s.heap.objs.size = some o → h'.objs.size = s.heap.objs.size + 2 →
      (∀ b o, s.heap.get? b = some o → h'.get? b = some o) → Q (.ref (s.heap.objs.size + 1)) { s with heap := h' }) :
    wpAny (model prog w) A (call (.type "enumerate") [v]) Q E s := by
  refine callType_new F.called_enumerate (by decide) (F.typeCall_enumerate_1 _) (F.newCall_enumerate_1 _) (fun obj => F.args_object_init_2 obj _) F.entry_enumerate_new
    (meets_enum1 B) ⟨h1, ?_⟩
  have hz : (s.heap.push o).objs.size = s.heap.objs.size + 1 := Heap.size_push ..
  show _ ∧ _
  rw [hz]
  have he : IsEnum ((s.heap.push o).push { cls := .type "enumerate", data := .fields #[.none, .bool false, .ref s.heap.objs.size, rawInt 0, .none, .none] }) (s.heap.objs.size + 1) s.heap.objs.size 0 .none := by
    have := Heap.get?_push_size (s.heap.push o) (o := { cls := .type "enumerate", data := .fields #[.none, .bool false, .ref s.heap.objs.size, rawInt 0, .none, .none] }) rfl
    rw [hz] at this; exact this
  refine ⟨⟨_, he, rfl⟩, h _ he (Heap.get?_push_of_some _ (Heap.get?_push_size _ B.free)) (by rw [Heap.size_push, hz]) fun b o x => Heap.get?_push_of_some _ (Heap.get?_push_of_some _ x)⟩

/-- pairs (i, x) while Src stands -/
def Itv (Src : Hp → Prop) (vs : List V) : L2.It := ⟨fun i H => Src H ∧ i < vs.length, fun i H v H' => ∃ T x, v = .ref T ∧ H T = none ∧ H' = upd H T (.tup [.int (i : Nat), x]) ∧ vs[i]? = some x, fun i H => Src H ∧ i = vs.length⟩
/-- what draws the items -/
structure Drawer (P : Program) (w : World) (K : PySem.W.Frag) (it : Ad) (Src : Hp → Prop) (vs : List V) (St0 : Nat → Heap → Prop) : Prop where
  obj : ∀ i h, St0 i h → ∃ o, h.get? it = some o ∧ ∀ v, o.data ≠ .cell v
  keep : ∀ i h h', St0 i h → (∀ o, h.get? it = some o → h'.get? it = some o) → St0 i h'
  draws : ∀ (X : Cx), X.prog = P → X.w = w → X.K = K → X.calm = true → ∀ (i : Nat) (pins : List (Ad × Obj)) (s : Shared) (σ : St') (H : Hp), Inv X pins σ H s → Src H → H it = none → St0 i s.heap → ∃ (fp : List Ad) (Pv : Nat → Value → Prop) (St : Nat → Heap → Prop), Draws P w X.A.in1 it fp vs.length Pv St ∧ St i s.heap ∧
    (∀ e c old, IsEnum s.heap e it c old → e ≠ it → e ∉ fp) ∧ (∀ j h, St j h → St0 j h) ∧ ∀ j x, Pv j x → ∃ v, vs[j]? = some v ∧ RelV v x
theorem turn_enumV {P : Program} {w : World} {K : PySem.W.Frag} {elts : List Expr} {kk : Nat} {tpos : Pos} {e it : Ad} {Src : Hp → Prop} {vs : List V} {St0 : Nat → Heap → Prop} (D : Drawer P w K it Src vs St0) :
    Turn P w K (.Tuple elts kk tpos) (Itv Src vs) [e, it] e (fun i h => (∃ old, IsEnum h e it ((i : Nat) : Int) old) ∧ St0 i h ∧ e ≠ it) where
  mem := by simp
  obj := fun i h st b hb => by
    obtain ⟨⟨old, he⟩, h0, _⟩ := st
    have e' : b = e ∨ b = it := by simpa using hb
    rcases e' with z | z
    · rw [z]; exact ⟨_, he, fun v q => nomatch q⟩
    · rw [z]; exact D.obj i h h0
  keep := fun i h h' st k => let ⟨⟨old, he⟩, h0, hne⟩ := st; ⟨⟨old, k e (by simp) _ he⟩, D.keep i h h' h0 fun o q => k it (by simp) o q, hne⟩
  item := by
    intro X hP hw hK hc i pins s σ H E I hf st hg
    obtain ⟨⟨old, he⟩, h0, hne⟩ := st
    obtain ⟨hsrc, hi⟩ := hg
    obtain ⟨fp, Pv, St, DD, hst, hnf, hst0, hPv⟩ := D.draws X hP hw hK hc i pins s σ H I hsrc (hf it (by simp)).1 h0
    subst hP hw hK
    have hel : e < s.heap.objs.size := Heap.lt_size he
    obtain ⟨oi, hoi, _⟩ := D.obj i _ h0
    have hil : it < s.heap.objs.size := Heap.lt_size hoi
    refine wpAny_pyNext_enum_itemC DD he hst hi hne (hnf e _ _ he hne) fun x h' tk hP ho hst' hT hsz hk => ?_
    obtain ⟨v, hv, rv⟩ := hPv i x hP
    refine ⟨_, rfl, wpAny_letOwnedTupleGo_enum (s := { s with heap := h', toks := tk + 1 }) ho fun h'' he' sb => ?_⟩
    have hT2 : h''.get? s.heap.objs.size = some { cls := .type "tuple", data := .seq #[.int i tk, x] } := (sb.2 _ (Nat.ne_of_gt hel)).trans hT
    have new : ObjOk X.prog X.w (upd H s.heap.objs.size (.tup [.int (i : Nat), v])) h'' s.heap.objs.size (.tup [.int (i : Nat), v]) :=
      ⟨by show 2 ≤ sizeLine; decide, [.int i tk, x], .cons ⟨_, rfl⟩ (.cons rv .nil), ⟨_, hT2, rfl, _, rfl⟩⟩
    have I1 : Inv X pins σ (upd H s.heap.objs.size (.tup [.int (i : Nat), v])) { s with heap := h'', toks := tk + 1 } :=
      I.turnedNew (ch := [e, it]) (fun b ob hb q => (sb.2 b (fun z => hb (by simp [z]))).trans (hk b ob (fun z => hb (by simp [z])) (fun z => hb (by simp [z])) q)) hf (Nat.le_refl _) new
    refine ⟨.ref s.heap.objs.size, _, I1, rfl, ⟨_, v, rfl, I.hok.fresh (Nat.le_refl _), rfl, hv⟩, ⟨⟨x, ?_⟩, D.keep _ _ _ (hst0 _ _ hst') fun o q => (sb.2 it (Ne.symm hne)).trans q, hne⟩, fun b hb => ?_⟩
    · have e1 : ((i + 1 : Nat) : Int) = (i : Int) + 1 := by omega
      rw [e1]; exact he'
    · have hb' : b < s.heap.objs.size := by
        have e' : b = e ∨ b = it := by simpa using hb
        rcases e' with z | z
        · rw [z]; exact hel
        · rw [z]; exact hil
      rw [upd_ne (Nat.ne_of_lt hb')]
      exact (hf b hb).1
  done := by
    intro X hP hw hK hc i pins s σ H E I hf st hg
    obtain ⟨⟨old, he⟩, h0, hne⟩ := st
    obtain ⟨hsrc, hi⟩ := hg
    obtain ⟨fp, Pv, St, DD, hst, hnf, hst0, hPv⟩ := D.draws X hP hw hK hc i pins s σ H I hsrc (hf it (by simp)).1 h0
    subst hP hw hK
    subst hi
    obtain ⟨f0, f1, f2, f3, f4, f5⟩ := hf it (by simp)
    exact wpAny_pyNext_enum_endD DD he hst fun h' eb => ⟨rfl, I.turned (t' := s.toks) (fun b o hb q => eb b o hb q) f0 f1 f3 f4 f5⟩
  self := fun A i s Q E st h => let ⟨⟨_, he⟩, _⟩ := st; wpAny_pyIter_enum he h

/-! ### a tuple, a text, a list -/
theorem drawer_tup {P : Program} {w : World} {K : PySem.W.Frag} {it a : Ad} {vs : List V} : Drawer P w K it (fun H => SqT K H a vs) vs (fun i h => h.IsTupleIter it a i) where
  obj := fun i h st => by
    obtain ⟨o, e, c, d⟩ := st
    exact ⟨o, e, fun v z => by rw [d] at z; cases z⟩
  keep := fun i h h' st k => st.at fun o e => k o e
  draws := by
    intro X hP hw hK hc i pins s σ H I hq hn st
    subst hP hw hK
    obtain ⟨its, rv, p, hz⟩ := I.tuple hq
    obtain ⟨ot, hot, hct, _⟩ := id p
    obtain ⟨oi, hoi, hci, _⟩ := id st
    have hne : a ≠ it := fun z => by
      rw [z, hoi] at hot
      cases hot
      rw [hci] at hct
      exact absurd hct (by decide)
    have hl : its.toArray.size = vs.length := by simp [rv.length]
    have DD := Draws.tuple (prog := X.prog) (w := X.w) (A := X.A.in1) (I.ok.hd hc) it a hne its.toArray
    rw [hl] at DD
    refine ⟨_, _, _, DD, ⟨st, p⟩, fun e c old he hei hm => ?_, fun j h q => q.1, fun j x hx => ?_⟩
    · rcases List.mem_cons.mp hm with z | hm
      · exact hei z
      · rcases List.mem_cons.mp hm with z | hm
        · have he' : s.heap.get? e = some _ := he
          rw [z, hot] at he'
          cases he'
          exact absurd hct (show ¬ (Value.type "enumerate" = Value.type "tuple") by decide)
        · cases hm
    · have hx' : its[j]? = some x := by simpa using hx
      have hj : j < its.length := (List.getElem?_eq_some_iff.mp hx').1
      have hj' : j < vs.length := by rw [rv.length]; exact hj
      obtain ⟨u, hu, ru⟩ := rv.get (List.getElem?_eq_getElem hj')
      rw [hx'] at hu
      cases hu
      exact ⟨_, List.getElem?_eq_getElem hj', ru⟩
theorem drawer_lst {P : Program} {w : World} {K : PySem.W.Frag} {it a : Ad} {vs : List V} : Drawer P w K it (fun H => SqL K H a vs) vs (fun i h => h.IsListIter it a i) where
  obj := fun i h st => by
    obtain ⟨o, e, c, d⟩ := st
    exact ⟨o, e, fun v z => by rw [d] at z; cases z⟩
  keep := fun i h h' st k => st.at fun o e => k o e
  draws := by
    intro X hP hw hK hc i pins s σ H I hq hn st
    subst hP hw hK
    obtain ⟨its, rv, p, hz⟩ := I.list hq
    obtain ⟨ot, nn, hot, hct, _⟩ := id p
    obtain ⟨oi, hoi, hci, _⟩ := id st
    have hne : a ≠ it := fun z => by
      rw [z, hoi] at hot
      cases hot
      rw [hci] at hct
      exact absurd hct (by decide)
    have hl : its.toArray.size = vs.length := by simp [rv.length]
    have DD := Draws.list (prog := X.prog) (w := X.w) (A := X.A.in1) (I.ok.hd hc) it a hne its.toArray
    rw [hl] at DD
    refine ⟨_, _, _, DD, ⟨st, p.isList⟩, fun e c old he hei hm => ?_, fun j h q => q.1, fun j x hx => ?_⟩
    · rcases List.mem_cons.mp hm with z | hm
      · exact hei z
      · rcases List.mem_cons.mp hm with z | hm
        · have he' : s.heap.get? e = some _ := he
          rw [z, hot] at he'
          cases he'
          exact absurd hct (show ¬ (Value.type "enumerate" = Value.type "list") by decide)
        · cases hm
    · have hx' : its[j]? = some x := by simpa using hx
      have hj : j < its.length := (List.getElem?_eq_some_iff.mp hx').1
      have hj' : j < vs.length := by rw [rv.length]; exact hj
      obtain ⟨u, hu, ru⟩ := rv.get (List.getElem?_eq_getElem hj')
      rw [hx'] at hu
      cases hu
      exact ⟨_, List.getElem?_eq_getElem hj', ru⟩
theorem drawer_str {P : Program} {w : World} {K : PySem.W.Frag} {it : Ad} {x : Tx} {t : Tok} : Drawer P w K it (fun _ => True) (x.map fun c => V.str ⟨#[c]⟩) (fun i h => h.IsStrIter it (strIterType (toS x)) (toS x) t i) where
  obj := fun i h st => by
    obtain ⟨o, e, c, d⟩ := st
    exact ⟨o, e, fun v z => by rw [d] at z; cases z⟩
  keep := fun i h h' st k => let ⟨o, ho, r⟩ := st; ⟨o, k o ho, r⟩
  draws := by
    intro X hP hw hK hc i pins s σ H I _ hn st
    subst hP hw hK
    have hl : (toS x).cps.size = (x.map fun c => V.str ⟨#[c]⟩).length := by simp [toS]
    have key : ∃ (St : Nat → Heap → Prop), Draws X.prog X.w X.A.in1 it [it] (toS x).cps.size (fun i v => ∃ c u, (toS x).cps[i]? = some c ∧ v = .str ⟨#[c]⟩ u) St ∧ St = fun i h => h.IsStrIter it (strIterType (toS x)) (toS x) t i := by
      unfold strIterType
      cases ha : (toS x).cps.all (· < 128)
      · exact ⟨_, Draws.strWide (A := X.A.in1) (I.ok.hd hc) it (toS x) t, rfl⟩
      · exact ⟨_, Draws.strAscii (A := X.A.in1) (I.ok.hd hc) it (toS x) t, rfl⟩
    obtain ⟨St, DD, rfl⟩ := key
    rw [hl] at DD
    refine ⟨_, _, _, DD, st, fun e c old he hei hm => ?_, fun j h q => q, fun j v ⟨c, u, hc, hv⟩ => ?_⟩
    · rcases List.mem_cons.mp hm with z | hm
      · exact hei z
      · cases hm
    · subst hv
      have hc' : x[j]? = some c := by simpa [toS] using hc
      exact ⟨.str ⟨#[c]⟩, by rw [List.getElem?_map, hc']; rfl, u, rfl⟩
section
variable {X : Cx} {ti : Ti} {G : Ge} {Φ : Nat → FM} {k : Nat} {eA : EA} {c : Cs} {P : Hp} {W : WX} {pos p tpos : Pos} {elts : List Expr} {kk : Nat} {ea : Expr} {a : E}
theorem enum_start {v : Value} {o : Obj} {Hb : Heap → Prop} {Src : Hp → Prop} {vs : List V} {St0 : Nat → Heap → Prop} {pins : List (Ad × Obj)} {σ : St'} {H : Hp} {s : Shared} {R : L2.It → Hp → Prop} (B : Begins v o Hb) (hb : Hb s.heap) (I : Inv X pins σ H s)
    (D : Drawer X.prog X.w X.K s.heap.objs.size Src vs St0) (h0 : ∀ h', h'.get? s.heap.objs.size = some o → St0 0 h') (q : R (Itv Src vs) H) :
    wpAny (model X.prog X.w) X.A (call (.type "enumerate") [v]) (fun u s1 => wpAny (model X.prog X.w) X.A (pyIter u) (PIE X pins σ (.Tuple elts kk tpos) R) X.xe s1) X.xe s := by
  refine call_enum1 B hb fun h' he hit hsz hk => wpAny_pyIter_enum he ?_
  have I2 : Inv X pins σ H { s with heap := h' } := I.kept (t' := s.toks) hk
  refine ⟨s.heap.objs.size + 1, [s.heap.objs.size + 1, s.heap.objs.size], _, _, H, rfl, I2, turn_enumV D, ⟨⟨.none, he⟩, h0 h' hit, Nat.succ_ne_self _⟩, fun b hb => ?_, q⟩
  have e' : b = s.heap.objs.size + 1 ∨ b = s.heap.objs.size := by simpa using hb
  have hle : s.heap.objs.size ≤ b := by
    rcases e' with z | z
    · rw [z]; exact Nat.le_add_right _ _
    · rw [z]; exact Nat.le_refl _
  exact I.fpOk hle (I.hok.fresh hle)
/-- the reading: what stands behind enumerate(v) -/
def TEnum (G : Ge) (P : Hp) (eA : EA) (W : WX) (m : S → R Sl) (K : PySem.W.Frag) : TI := fun σ H R => TV G P eA W m σ H fun u H1 => (∃ a vs, u = .ref a ∧ SqL K H1 a vs ∧ R (Itv (fun H => SqL K H a vs) vs) H1) ∨ (∃ a vs, u = .ref a ∧ SqT K H1 a vs ∧ R (Itv (fun H => SqT K H a vs) vs) H1) ∨ ∃ t : Tx, u = .str (toS t) ∧ R (Itv (fun _ => True) (t.map fun c => V.str ⟨#[c]⟩)) H1
theorem pi_enumG (hX : XOk ti G Φ k eA c X) (hg : glB c "enumerate" = true) (hm : ti.free.contains "enumerate" = true) (hn : ∀ x p, ea ≠ .Starred x p) (ha : PE X ea (TV G P eA W (evE G.tb Φ a))) :
    PI X (.Tuple elts kk tpos) (.Call (.Name "enumerate" p) [ea] [] pos) (TEnum G P eA W (evE G.tb Φ a) X.K) := by
  obtain ⟨g1, g2⟩ := gl_of hX hg
  have hst := star_of hn [] X.env
  refine ⟨fun pins s σ H R I h => ?_⟩
  refine Call_ (ld_blt I g1 (free_of hX hm) boot_enumerate (PyProof.Rows.callWith_type1 (thn ((pa_cons ha pa_nil hst).run pos pins s σ H (fun us H1 => ∃ u, us = [u] ∧ ((∃ a vs, u = .ref a ∧ SqL X.K H1 a vs ∧ R (Itv (fun H => SqL X.K H a vs) vs) H1) ∨ (∃ a vs, u = .ref a ∧ SqT X.K H1 a vs ∧ R (Itv (fun H => SqT X.K H a vs) vs) H1) ∨ ∃ t : Tx, u = .str (toS t) ∧ R (Itv (fun _ => True) (t.map fun c => V.str ⟨#[c]⟩)) H1)) I ?_) fun us s1 ⟨vs, H1, I1, r1, u, e, q⟩ => ?_) hst rfl))
  · obtain ⟨s0, F, A, r, h⟩ := h
    exact ⟨s0, F, A, r, h.imp fun v s' F' A' H' _ _ _ q u ru => ⟨u, rfl, q u ru⟩⟩
  · subst e
    cases r1 with | cons r rr =>
    cases rr
    rcases q with ⟨a, vs, rfl, hq, q⟩ | ⟨a, vs, rfl, hq, q⟩ | ⟨t, rfl, q⟩
    · cases r
      obtain ⟨its, rv, p', hz⟩ := I1.list hq
      exact enum_start (begins_list a its.toArray) p'.isList I1 drawer_lst (fun h' e => ⟨_, e, rfl, rfl⟩) q
    · cases r
      obtain ⟨its, rv, p', hz⟩ := I1.tuple hq
      exact enum_start (begins_tuple a its.toArray) (show s1.heap.IsTuple a its.toArray from p') I1 drawer_tup (fun h' e => ⟨_, e, rfl, rfl⟩) q
    · obtain ⟨tk, rfl⟩ := r
      exact enum_start (begins_text (toS t) tk) trivial I1 (drawer_str (t := tk)) (fun h' e => ⟨_, e, rfl, rfl⟩) q
end
end GF

set_option Elab.async false
set_option linter.all false
set_option maxRecDepth 100000
set_option autoImplicit false
set_option maxHeartbeats 1000000
namespace GF
open PySem PySem.Spec PyProof.Rows L2
open PySem.W (Looks)

/-! ### the bound built-in __init__ called -/
section
variable {prog : Program} {w : World} {A : Around} {E : Value → Shared → Prop} {h : Heap} {g : Array GenState} {d : Drawn} {t : Nat} {os : OsState}
variable {nm q : Str} {C N : Addr} {bs bm : List Value} {hdct : Bool} {sn : List Str} {sub : List Value} {ab : Bool} {col : Option Bool} {dd : Option Addr} {k0 k1 k2 k3 k5 : Option Value}
theorem call_mw {u e t0 : Addr} {rest : List Value} {Q : Value → Shared → Prop}
    (hC : h.get? C = some (excClassObj nm q C N bs bm hdct sn sub ab col dd k0 k1 k2 k3 k5 "ValueError.__new__")) (he : h.get? e = some (HandSPX.excO C t0)) (hu : h.get? u = some (PySem.W.kxs_mw "ValueError.__init__" e)) (hrest : rest.length ≤ sizeLine)
    (hq : ∀ h' t1, (∀ b o, b ≠ e → h.get? b = some o → h'.get? b = some o) → h'.get? e = some (HandSPX.excO C t1) → Q .none ⟨h', g, d, t, os⟩) :
    wpAny (model prog w) A (call (.ref u) rest) Q E ⟨h, g, d, t, os⟩ := by
  refine wpAny_call (codeAny_of_tree ?_)
  show wpAny _ A.in1 (callAny (.ref u) ⟨rest, []⟩) _ _ _
  simp only [callAny]
  refine wpAny_bind (wpAny_load hu ?_)
  simp only [PySem.W.kxs_mw, show (Value.type "method-wrapper" == Value.type "method" || Value.type "method-wrapper" == Value.type "builtin_function_or_method" || Value.type "method-wrapper" == Value.type "method-wrapper") = true by decide, if_true]
  refine PySem.W.KFB.if_so (by decide) ?_
  refine wpAny_bind (ESX.check_bound F.excBase_ValueError hC he rfl ?_)
  refine wpAny_bind (wpAny_pure (wpAny_pure ?_))
  refine ⟨Code.quiet_builtin _ (by decide +kernel), codeAny_builtin F.excBase_ValueError.initEntry ?_⟩
  rw [Around.under_plainId F.excBase_ValueError.init.plain _]
  refine PySem.W.exc_init_tree (cls := .ref C) (t0 := t0) (dv := none) (c2 := .none) (c3 := .none) (b4 := .bool false) he hrest fun h' k e1 _ => ?_
  exact hq h' _ k e1
end

/-! ### what is known of a class with its own __init__ of one field -/
/-- the body: super().__init__(msg); self.f = par -/
def initBody (msg : List Expr) (sf f par : Str) (ps : Nat → Pos) : List Stmt :=
  [.Expr (.Call (.Attribute (.Call (.Name "super" (ps 0)) [] [] (ps 1)) "__init__" (ps 2)) [.JoinedStr msg (ps 9)] [] (ps 3)) (ps 4),
   .Assign [.Attribute (.Name sf (ps 5)) f (ps 6)] (.Name par (ps 7)) (ps 8)]
/-- the message is laid: only texts are made -/
def MsgOk (prog : Program) (w : World) (msg : Expr) (env : Env) (par : Str) (ok : Value → Prop) : Prop :=
  ∀ (A : Around) (E : Value → Shared → Prop) (s : Shared) (m : Str → Option Value) (u : Value) (Q : Value → Shared → Prop), s.heap.Ns env.locals m → m par = some u → ok u →
    (∀ y tk t', Q (.str y tk) { s with toks := t' }) → wpAny (model prog w) A (eval msg env) Q E s
structure ExcI (K : PySem.W.Frag) (prog : Program) (w : World) (mg : Str → Option Value) (C : Ad) (f : Str) (ok : Value → Prop) : Prop where
  oex : OexC K C
  no : PySem.W.findIn K (.ref C) f = some none
  iv : PySem.W.subIn K (.ref C) (.type "ValueError") = some true
  sup : PySem.W.ks_superIn K C C "__init__" = some (some (.builtin "ValueError.__init__"))
  sta : PySem.W.nsIn K cStatics "thirdparty.any" = some none
  msup : mg "super" = none
  top : (prog.main.scope.names.lookup ("super" : Str)).isSome = false
  fn : ∃ (fI cc cda : Ad) (name qual : Str) (params : Arguments) (msg : List Expr) (sf par : Str) (ps : Nat → Pos) (scope : Scope) (dV kV doc pm ct oc ccl cl : Value) (an od cdd cld : Option Ad) (osl ccs csl : Array (Option Value)) (vs : Array Value) (file : Str) (tf : Tok) (ar : Arg),
    PySem.W.findIn K (.ref C) "__init__" = some (some (.ref fI)) ∧ PySem.W.typeIn K (.ref fI) = some (.type "function") ∧
    K.lookup fI = some ⟨oc, od, .func (PySem.W.ksFn name qual params (initBody msg sf f par ps) scope dV kV doc pm an (.ref cda) ct cc), osl⟩ ∧
    PySem.W.codeIn K (.ref cda) qual = true ∧ K.lookup cda = some ⟨ccl, cdd, .fields vs, ccs⟩ ∧ vs[2]? = some (.str file tf) ∧ ((prog.main.file : Str) == file) = true ∧
    K.lookup cc = some ⟨cl, cld, .cell (some (.ref C)), csl⟩ ∧
    (∀ a b, bindArgs (PySem.W.ksFn name qual params (initBody msg sf f par ps) scope dV kV doc pm an (.ref cda) ct cc) ⟨[a, b], []⟩ = pure [(sf, a), (par, b)]) ∧
    (params.posonlyargs ++ params.args).head? = some ar ∧ ar.arg = sf ∧ sf ≠ par ∧
    scope.names.lookup ("super" : Str) = some .globalImplicit ∧ scope.names.lookup ("__class__" : Str) = some .free ∧ scope.names.lookup sf = some .local ∧ scope.names.lookup par = some .local ∧ scope.kind = .function ∧
    (∀ x ∈ scope.names, x.2 ≠ .cell) ∧ scope.isCoroutine = false ∧ scope.isGenerator = false ∧ (sf == ("__debug__" : Str)) = false ∧ (par == ("__debug__" : Str)) = false ∧
    ((ps 2).endLine == (ps 3).line) = true ∧ ∀ L : Ad, MsgOk prog w (.JoinedStr msg (ps 9)) (PySem.W.ksEnv qual scope L fI (.ref cda) cc) par ok

section
variable {X : Cx} {pins : List (Ad × Obj)} {σ : St'} {H : Hp} {C : Ad} {f : Str} {ok : Value → Prop}
/-- C(u): the exception and its dict, all else as it was -/
theorem call_excI (T : ExcI X.K X.prog X.w X.mg C f ok) {s : Shared} {u : Value} {A : Around} {Q : Value → Shared → Prop} {E : Value → Shared → Prop} (I : Inv X pins σ H s) (hd : A.depth + 1 < recursionLimit) (hu : ok u)
    (hq : ∀ e dx t1 h' tk, s.heap.objs.size ≤ e → s.heap.objs.size ≤ dx → dx ≠ e → (∀ b o, s.heap.get? b = some o → h'.get? b = some o) →
      h'.get? e = some { cls := .ref C, dict := some dx, data := .fields #[.ref t1, .none, .none, .none, .bool false, .none] } → h'.Ns1 dx (fun y => if y = f then some u else none) → Q (.ref e) { s with heap := h', toks := tk }) :
    wpAny (model X.prog X.w) A (call (.ref C) [u]) Q E s := by
  obtain ⟨nm, q, N, bs, bm, sn, sub, ab, col, dd, k0, k1, k2, k3, k5, hC, hbm⟩ := T.oex.cls
  obtain ⟨fI, cc, cda, name, qual, params, msg, sf, par, ps, scope, dV, kV, doc, pm, ct, oc, ccl, cl, an, od, cdd, cld, osl, ccs, csl, vs, file, tf, ar, iC, tI, lf, hcode, lcda, hvs, hfile, lcc, hbind, hpar, har, hne, sc1, sc2, sc3, sc4, sck, scc, sco, scg, db1, db2, hline, hmsg⟩ := T.fn
  have hcl : PySem.W.clsIn X.K C = some { name := nm, bases := bs, mro := .ref C :: bm, ns := N, qualname := q, hasDict := true, slotNames := sn, subclasses := sub, abstract := ab, collection := col, hasDel := false } := by unfold PySem.W.clsIn; rw [hC] <;> rfl
  have lim : s.heap.NoLimit := I.mod.nolimit.keeps I.bk
  have kin := I.kIn
  have glob : s.heap.Ns mainGlobals X.mg := I.mod.glob.keeps I.bk
  obtain ⟨mb, hb1, hb2⟩ := I.mod.blt
  have blt : s.heap.Ns builtinsNs mb := hb1.keeps I.bk
  obtain ⟨hp, g, dr, tk, os⟩ := s
  refine wpAny_call (HandSPX.call_own F.excBase_ValueError (fun Y => HandSPX.refsVE_contains Y bm hbm) (kin _ _ hC) (PySem.W.looks_findIn kin iC) (fun self => PySem.W.bind_fn kin self tI) (by show 1 ≤ sizeLine; rw [sizeLine_eq]; decide) ?_)
  have k1' : ∀ b o, hp.get? b = some o → ((hp.push (PySem.W.kdv_tup [u])).push (HandSPX.excO C hp.objs.size)).get? b = some o := fun b o e => Heap.get?_push_of_some _ (Heap.get?_push_of_some _ e)
  have hget : ((hp.push (PySem.W.kdv_tup [u])).push (HandSPX.excO C hp.objs.size)).get? (hp.objs.size + 1) = some (HandSPX.excO C hp.objs.size) := by heap_get
  generalize hh1 : (hp.push (PySem.W.kdv_tup [u])).push (HandSPX.excO C hp.objs.size) = hp1 at k1' hget ⊢
  have hz1 : hp1.objs.size = hp.objs.size + 2 := by rw [← hh1, Heap.size_push, Heap.size_push]
  generalize he0 : hp.objs.size + 1 = e0 at hget ⊢
  have K1 : X.K.In hp1 := kin.keeps k1'
  have lim1 : (hp1 : Heap).NoLimit := lim.keeps k1'
  refine PySem.ks_codeAny_call_defAt (fd := PySem.W.ksFn name qual params (initBody msg sf f par ps) scope dV kV doc pm an (.ref cda) ct cc) (body := initBody msg sf f par ps) (binds := [(sf, .ref e0), (par, u)])
    hd (K1 _ _ lf) rfl lim1 (PySem.W.codeRec_of K1 hcode) rfl (.of_eq (hbind _ _)) scc ?_ (fun h1 hns hk1 => ?_) sco scg sck
  · intro x hx
    rcases List.mem_cons.mp hx with rfl | hx
    · exact sc3
    · rcases List.mem_cons.mp hx with rfl | hx
      · exact sc4
      · cases hx
  -- the body
  generalize hL : hp1.objs.size = L at hns
  have env_eq : callEnv (PySem.W.ksFn name qual params (initBody msg sf f par ps) scope dV kV doc pm an (.ref cda) ct cc) L fI = PySem.W.ksEnv qual scope L fI (.ref cda) cc := rfl
  rw [env_eq]
  show PySem.wpAt _ _ _ _ _ _ ⟨h1, g, dr, tk + 2, os⟩
  generalize tk + 2 = tk1
  have m1 : (fun x => ([(sf, Value.ref e0), (par, u)] : List (Str × Value)).reverse.lookup x) sf = some (.ref e0) := by
    show List.lookup sf [(par, u), (sf, Value.ref e0)] = _
    have : (sf == par) = false := beq_eq_false_iff_ne.mpr hne
    simp [List.lookup, this]
  have m2 : (fun x => ([(sf, Value.ref e0), (par, u)] : List (Str × Value)).reverse.lookup x) par = some u := by
    show List.lookup par [(par, u), (sf, Value.ref e0)] = _
    simp [List.lookup]
  have k2 : ∀ b o, hp.get? b = some o → h1.get? b = some o := fun b o e => hk1 b o (k1' b o e)
  have K2 : X.K.In h1 := kin.keeps k2
  have hx1 : h1.get? e0 = some (HandSPX.excO C hp.objs.size) := hk1 _ _ hget
  have heC : e0 ≠ C := fun z => by
    have := K2 _ _ hC
    rw [← z, hx1] at this
    cases this
  have J1 : PySem.W.InstAt h1 e0 (HandSPX.excO C hp.objs.size) C none := ⟨hx1, rfl, rfl, trivial⟩
  unfold initBody
  have he : eval (.Call (.Attribute (.Call (.Name "super" (ps 0)) [] [] (ps 1)) "__init__" (ps 2)) [.JoinedStr msg (ps 9)] [] (ps 3)) (PySem.W.ksEnv qual scope L fI (.ref cda) cc) = (do
      let ov ← attributeBase (.Call (.Name "super" (ps 0)) [] [] (ps 1)) "__init__" (PySem.W.ksEnv qual scope L fI (.ref cda) cc) (eval (.Call (.Name "super" (ps 0)) [] [] (ps 1)) (PySem.W.ksEnv qual scope L fI (.ref cda) cc))
      standAt (ps 2).atName
      let (f, first) ← holding [ov] (getMethod ov "__init__" (do return (← importBound (.Call (.Name "super" (ps 0)) [] [] (ps 1)) (PySem.W.ksEnv qual scope L fI (.ref cda) cc)).getD true))
      callWith (ps 3) f first (backTo (ps 3) (starEach [.JoinedStr msg (ps 9)] (PySem.W.ksEnv qual scope L fI (.ref cda) cc))) []) := by
    rw [arm_eval_Call]
    have hform : methodCallForm (([.JoinedStr msg (ps 9)] : List Expr).length + ([] : List Keyword).length) (backTo (ps 3) (starEach [.JoinedStr msg (ps 9)] (PySem.W.ksEnv qual scope L fI (.ref cda) cc))) (backToKw (ps 3) (keywordEach [] (PySem.W.ksEnv qual scope L fI (.ref cda) cc))) = true := rfl
    have hpos : methodCallPos true (.Call (.Name "super" (ps 0)) [] [] (ps 1)) (PySem.W.ksEnv qual scope L fI (.ref cda) cc) (ps 2) (ps 3) = pure (ps 3) := by unfold methodCallPos; simp [hline]
    unfold methodCall
    rw [hform]
    unfold calleeOf
    rw [hpos]
    rfl
  refine ks_wpAt_execs_cons (ks_wpAt_Expr_any (ks_wpAt_MethodCall (ks_wpAt_super_base (env := PySem.W.ksEnv qual scope L fI (.ref cda) cc) (cc := cda) sc1 sc2 (by decide) rfl (K2 _ _ lf) rfl hpar rfl (K2 _ _ lcda) rfl hvs hfile T.top ?_) he) ?_ ?_)
  · refine PySem.W.ks_loadName_global sck sc1 (Calls.loadGlobal_builtin (glob.keeps k2) T.msup (blt.keeps k2) ((hb2 _ (by decide)).trans ?_) ⟨rfl, ?_⟩)
    · exact PyProof.Rows.Boot.«super»
    refine wpAny_loadName_free sck sc2 rfl ⟨_, K2 _ _ lcc, rfl⟩ ?_
    rw [har]
    refine wpAny_loadName_local sck sc3 hns m1 ?_
    refine PySem.ks_wpAny_isType_cls (K2 _ _ hC) rfl ⟨rfl, ?_⟩
    refine PySem.ks_wpAny_call_super (K2 _ _ hC) rfl hx1 rfl (fun c z => by cases z) (PySem.W.looks_mroIn K2 ?_) (fun h2 hso hk2 => ?_)
    · unfold PySem.W.mroIn
      rw [hcl, Option.bind_some]
      simp
    have K3 : X.K.In h2 := K2.keeps hk2
    have J2 : PySem.W.InstAt h2 e0 (HandSPX.excO C hp.objs.size) C none := ⟨hk2 _ _ hx1, rfl, rfl, trivial⟩
    have ns2 : h2.Ns L (fun x => ([(sf, Value.ref e0), (par, u)] : List (Str × Value)).reverse.lookup x) := hns.keeps hk2
    have isup : PySem.W.alongIn X.K "__init__" ((((Value.ref C :: bm) : List Value).dropWhile (· != .ref C)).drop 1) = some (some (.builtin "ValueError.__init__")) := by
      have := T.sup
      unfold PySem.W.ks_superIn at this
      rw [hcl] at this
      exact this
    have hI : Looks (model X.prog X.w) h2 (isInstance (.ref e0) (.type "ValueError")) true := J2.type.andThen (PySem.W.looks_subIn K3 T.iv)
    refine PySem.W.kxs_getMethod PySem.W.kxs_ValueError hso (PySem.W.looks_opaque K3 T.sta) (l₀ := .ref C :: bm) ?_ rfl K3 isup hI heC (by decide) ?_
    · exact fun A Q E s k q => wpAny_bind ((PySem.W.looks_clsIn K3 hcl) A _ E s k (wpAny_pure q))
    have hu0 : (h2.push (PySem.W.kxs_mw "ValueError.__init__" e0)).get? h2.objs.size = some (PySem.W.kxs_mw "ValueError.__init__" e0) := Heap.get?_push_at rfl rfl
    have hk3 : ∀ b o, h2.get? b = some o → (h2.push (PySem.W.kxs_mw "ValueError.__init__" e0)).get? b = some o := fun b o z => Heap.get?_push_of_some _ z
    generalize h2.push (PySem.W.kxs_mw "ValueError.__init__" e0) = h3 at hu0 hk3
    generalize h2.objs.size = uu at hu0
    have K4 : X.K.In h3 := K3.keeps hk3
    have ns3 := ns2.keeps hk3
    have hx3 := hk3 _ _ (hk2 _ _ hx1)
    have k4 : ∀ b o, hp.get? b = some o → h3.get? b = some o := fun b o z => hk3 b o (hk2 b o (k2 b o z))
    refine PySem.W.kxs_callWith (i := "ValueError.__init__") (x := e0) rfl (Calls.evalArgs_plain (Calls.spliced_cons ?_))
    refine hmsg L _ _ _ _ u _ ns3 m2 hu fun y tk2 t' => Calls.spliced_nil ⟨hu0, ?_⟩
    refine call_mw (K4 _ _ hC) hx3 hu0 (by show 1 ≤ sizeLine; rw [sizeLine_eq]; decide) fun h4 t4 hk4 hx4 => ?_
    -- the field
    have eb : ∀ {b : Ad} {o : Obj}, hp.get? b = some o → b ≠ e0 := fun {b o} z => Nat.ne_of_lt (by rw [← he0]; exact Nat.lt_succ_of_lt (Heap.lt_size z))
    have k5' : ∀ b o, hp.get? b = some o → h4.get? b = some o := fun b o z => hk4 b o (eb z) (k4 b o z)
    have K5 : X.K.In h4 := kin.keeps k5'
    have hLe : L ≠ e0 := fun z => by
      have := Heap.lt_size hget
      rw [hL, z] at this
      exact absurd this (Nat.lt_irrefl _)
    have ns4 : h4.Ns L (fun x => ([(sf, Value.ref e0), (par, u)] : List (Str × Value)).reverse.lookup x) := by
      obtain ⟨oL, es, ep, hL', r⟩ := ns3
      exact ⟨oL, es, ep, hk4 _ _ hLe hL', r⟩
    refine ks_wpAt_execs_cons (ks_wpAt_Assign_Attr (wpAt_of_wpAny (wpAny_Name (wpAny_loadName_local sck sc4 ns4 m2 ?_) db2)) rfl)
    refine wpAny_Name (wpAny_loadName_local sck sc3 ns4 m1 ?_) db1
    refine PySem.W.set_plain K5 (ox := HandSPX.excO C t4) (od := none) ⟨hx4, rfl, rfl, trivial⟩ T.oex.sa ?_
    refine HandSPX.exc_osa K5 hx4 hcl (show HandSPX.refsVE (.ref C :: bm) = true from hbm) rfl T.no (fun h5 tk5 dx hk5 dn dne hx5 hn5 => ?_)
    refine wpAt_of_wpAny (wpAny_execs_nil ?_)
    refine ⟨rfl, ?_⟩
    have sz4 : hp.objs.size ≤ dx := by
      obtain ⟨oL, _, _, hL', _⟩ := ns4
      have l4 : L < h4.objs.size := Heap.lt_size hL'
      have dn' : h4.objs.size ≤ dx := dn
      omega
    exact hq e0 dx t4 h5 tk5 (by rw [← he0]; exact Nat.le_succ _) sz4 dne (fun b o z => hk5 b o (eb z) (k5' b o z)) hx5 hn5
  · simp [interactive, sck]
  · rfl
end
end GF

set_option Elab.async false
set_option linter.all false
set_option maxRecDepth 100000
set_option autoImplicit false
set_option maxHeartbeats 1000000
namespace GF
open PySem PySem.Spec PyProof.Rows L2

/-- what a field is made of -/
def FldOk (u : Value) : Prop := (∃ (i : Int) (t : Tok), u = .int i t ∧ i.natAbs.log2 < 1900) ∨ ∃ (x : Tx) (t : Tok), u = .str (toS x) t ∧ okT x ∧ x.length ≤ 100000
def partB (par : Str) : Expr → Bool
  | .Constant (.str s) _ _ => decide (s.length ≤ 1000)
  | .FormattedValue (.Name x _) (-1) none _ => decide (x = par)
  | .FormattedValue (.Name x _) 114 none _ => decide (x = par)
  | _ => false
def msgB (par : Str) (ps : List Expr) : Bool := ps.all (partB par) && (decide (2 ≤ ps.length) && decide (ps.length ≤ 6))
theorem part_run {prog : Program} {w : World} {A : Around} {E : Value → Shared → Prop} {s : Shared} {m : Str → Option Value} {u : Value} {env : Env} {par : Str} {e : Expr} {Q : Value → Shared → Prop} (hk : env.scope.kind = .function) (hl : env.kindOf par = some .local) (hd : (par == ("__debug__" : Str)) = false)
    (h : partB par e = true) (hn : s.heap.Ns env.locals m) (hm : m par = some u) (hu : FldOk u) (hq : ∀ y tk t', y.length ≤ 1000100 → Q (.str y tk) { s with toks := t' }) : wpAny (model prog w) A (eval e env) Q E s := by
  have ld : ∀ {A : Around} {E : Value → Shared → Prop} {Q : Value → Shared → Prop} {pos : Pos}, Q u s → wpAny (model prog w) A (eval (.Name par pos) env) Q E s := fun q => wpAny_Name (wpAny_loadName_local hk hl hn hm q) hd
  unfold partB at h
  split at h
  · exact Calls.Constant_str (hq _ _ _ (by have := of_decide_eq_true h; omega))
  · cases of_decide_eq_true h
    refine wpAny_FormattedValue_plain (ld ?_)
    rcases hu with ⟨i, t, rfl, hi⟩ | ⟨x, t, rfl, ox, hx⟩
    · refine wpAny_formatField_int (by omega) (hq _ _ _ ?_)
      have e1 := int_text_length_le (k := 1900) (a := i) (by decide) hi
      have e2 : (toString i : Str).length ≤ 10001 := by
        show (Str.ofString (toString i)).length ≤ _
        rw [PySem.ofString_length]; omega
      omega
    · have : (toS x).length ≤ 100000 := by rw [toS_len]; exact hx
      exact wpAny_formatField_str (hq _ _ _ (by omega)) (hq _ _ _ (by omega)) (by rw [sizeLine_eq]; omega)
  · cases of_decide_eq_true h
    refine wpAny_FormattedValue_repr (ld ?_)
    rcases hu with ⟨i, t, rfl, hi⟩ | ⟨x, t, rfl, ox, hx⟩
    · have e1 := int_text_length_le (k := 1900) (a := i) (by decide) hi
      have e2 : (toString i : Str).length ≤ 10001 := by
        show (Str.ofString (toString i)).length ≤ _
        rw [PySem.ofString_length]; omega
      exact pyReprObj_int (by omega) (wpAny_formatField_str (hq _ _ _ (by omega)) (hq _ _ _ (by omega)) (by rw [sizeLine_eq]; omega))
    · have h1 : (reprText (toS x)).length ≤ 10 * (toS x).length + 2 := StrLaws.reprText_len _ fun c hc => by
        rw [toS_cps] at hc
        have := ox.2 c hc
        omega
      have : (toS x).length ≤ 100000 := by rw [toS_len]; exact hx
      have h2 : (reprText (toS x)).length ≤ sizeLine := by rw [sizeLine_eq]; omega
      exact pyReprObj_str (wpAny_formatField_str (hq _ _ _ (by omega)) (hq _ _ _ (by omega)) h2) h2
  · cases h
theorem parts_run {prog : Program} {w : World} {A : Around} {E : Value → Shared → Prop} {m : Str → Option Value} {u : Value} {env : Env} {par : Str} (hk : env.scope.kind = .function) (hl : env.kindOf par = some .local) (hd : (par == ("__debug__" : Str)) = false) (hm : m par = some u) (hu : FldOk u) :
    ∀ (ps : List Expr) (acc : Str) (s : Shared) (R : Str → Shared → Prop), ps.all (partB par) = true → acc.length + ps.length * 1000100 ≤ sizeLine → s.heap.Ns env.locals m → (∀ y t', y.length ≤ sizeLine → R y { s with toks := t' }) → Joins (model prog w) A E (evalEach ps env) acc R s
  | [], acc, s, R, _, hz, _, hR => by
    have e0 : evalEach [] env = [] := by first | rfl | simp [evalEach]
    rw [e0]
    exact hR acc s.toks (by simpa using hz)
  | e :: ps, acc, s, R, h, hz, hn, hR => by
    have e0 : evalEach (e :: ps) env = eval e env :: evalEach ps env := by first | rfl | simp [evalEach]
    rw [e0]
    rw [List.all_cons, Bool.and_eq_true] at h
    rw [List.length_cons] at hz
    refine part_run hk hl hd h.1 hn hm hu fun y tk t' hy => ?_
    have hl2 : (acc ++ y).length = acc.length + y.length := by
      show (acc.cps ++ y.cps).size = acc.cps.size + y.cps.size
      exact Array.size_append
    exact ⟨y, tk, rfl, by rw [hl2]; omega, parts_run hk hl hd hm hu ps (acc ++ y) _ R h.2 (by rw [hl2]; omega) hn fun z t2 hz2 => hR z t2 hz2⟩
theorem msgOk_of {prog : Program} {w : World} {env : Env} {par : Str} {ps : List Expr} {pos : Pos} (hk : env.scope.kind = .function) (hl : env.kindOf par = some .local) (hd : (par == ("__debug__" : Str)) = false) (h : msgB par ps = true) : MsgOk prog w (.JoinedStr ps pos) env par FldOk := by
  intro A E s m u Q hn hm hu hq
  unfold msgB at h
  simp only [Bool.and_eq_true, decide_eq_true_eq] at h
  obtain ⟨h1, h2, h3⟩ := h
  match ps, h2 with
  | v1 :: v2 :: rest, _ =>
    refine wpAny_JoinedStr (parts_run hk hl hd hm hu _ Str.empty s _ h1 ?_ hn fun y t' hy => ⟨hy, hq _ _ _⟩)
    have : Str.empty.length = 0 := rfl
    rw [this, sizeLine_eq]
    omega

/-! ### a class whose __init__ is ValueError's -/
structure ExcN (K : PySem.W.Frag) (C : Ad) : Prop where
  kC : PySem.W.keepIn K (.ref C) = true
  exC : PySem.W.subIn K (.ref C) (.type "BaseException") = some true
  tyC : PySem.W.typeIn K (.ref C) = some (.type "type")
  iC : PySem.W.findIn K (.ref C) "__init__" = some (some (.builtin "ValueError.__init__"))
  ini : PySem.W.excInitIn K C [.type "ValueError", .type "Exception", .type "BaseException", .type "object"] "ValueError.__new__" = true

/-! ### as expressions that are raised -/
section
variable {X : Cx} {C : Ad} {f : Str} {x : Str} {p pos : Pos} {e : Expr} {t : TA}
theorem pmk_excN (T : ExcN X.K C) (hg : Gl X x) (hm : X.mg x = some (.ref C)) (hdb : (x == ("__debug__" : Str)) = false) : PMk X (.Call (.Name x p) [] [] pos) (fun _ H Q => Q (.ref C) none H) := by
  intro pins s σ H Q I h
  refine wpAny_Call_Name_kw (ld_glob I hg hm ?_ hdb)
  refine PySem.W.callWith_K0 I.kIn T.kC ?_
  obtain ⟨nm, N, qn, bs, bm, hdct, sn, sub, ab, col, dd, k0, k1, k2, k3, k5, hC, hT⟩ := PySem.W.excInit_of I.kIn T.ini
  have hi' := PySem.W.looks_findIn (M := model X.prog X.w) I.kIn T.iC
  have hf : ∀ n, H (s.heap.objs.size + n) = none := fun n => I.hok.fresh (Nat.le_add_right _ _)
  have hn1 := hf 1
  obtain ⟨hp, g, d, tk, os⟩ := s
  refine PySem.W.call_B F.excBase_ValueError hT hC hi' (Nat.zero_le _) fun h' k he ht => ?_
  have gn : hp.get? (hp.objs.size + 1) = none := Heap.get?_none_of_le (Nat.le_add_right _ _)
  exact ⟨hp.objs.size + 1, _, _, ⟨hp, g, d, tk, os⟩, H, .ref C, none, rfl, I, k, gn, he, ⟨rfl, rfl⟩, rfl, rfl, hn1, rfl, I.bare, raises_own T.exC T.tyC, h⟩
theorem pmk_excI (T : ExcI X.K X.prog X.w X.mg C f FldOk) (hd : X.A.depth + 1 < recursionLimit) (hg : Gl X x) (hm : X.mg x = some (.ref C)) (hdb : (x == ("__debug__" : Str)) = false) (ha : PA X [e] t) (hst : starEach [e] X.env = (false, eval e X.env) :: starEach [] X.env) :
    PMk X (.Call (.Name x p) [e] [] pos) (fun σ H Q => t σ H fun vs H1 => ∃ v, vs = [v] ∧ (∀ u, RelV v u → FldOk u) ∧ ∀ dx, H1 dx = none → Q (.ref C) (some dx) (upd H1 dx (.xd [(f, v)]))) := by
  intro pins s σ H Q I h
  refine wpAny_Call_Name_kw (ld_glob I hg hm ?_ hdb)
  refine PySem.W.callWith_K (h₀ := X.base) I.ok.mod.kin T.oex.kC (thn (ha.run pos pins s σ H _ I h) fun us s1 ⟨vs, H1, I1, r1, v, ev, hv, q⟩ => ⟨I1.kIn, ?_⟩) hst rfl
  subst ev
  cases r1 with
  | @cons _ u _ _ rv rn =>
  cases rn
  refine call_excI T I1 hd (hv _ rv) fun e0 dx t1 h' tk he hdx hne k hx hn => ?_
  have hnd : H1 dx = none := I1.hok.fresh hdx
  have hne0 : H1 e0 = none := I1.hok.fresh he
  obtain ⟨GG, g1, g2⟩ := restrict h' fun b => decide (b ≠ e0)
  have gk : ∀ b, b ≠ e0 → GG.get? b = h'.get? b := fun b hb => g1 b (decide_eq_true hb)
  have ge : GG.get? e0 = none := g2 e0 (by simp)
  have kG : ∀ b u, s1.heap.get? b = some u → GG.get? b = some u := fun b u hb => by
    have : b ≠ e0 := Nat.ne_of_lt (Nat.lt_of_lt_of_le (Heap.lt_size hb) he)
    rw [gk b this]; exact k b u hb
  have hnG : GG.Ns1 dx (fun y => if y = f then some u else none) := hn.at fun o q => (gk dx hne).trans q
  have rel : ∀ g, RelO (([(f, v)] : List (Str × V)).lookup g) ((fun y => if y = f then some u else none) g) := relO_put (fs := []) rv fun g => True.intro
  have J : Inv X pins σ (upd H1 dx (.xd [(f, v)])) { s1 with heap := GG, toks := tk } := I1.laid (a := dx) (o := .xd [(f, v)]) (h' := GG) (t' := tk) kG hdx ⟨_, hnG, rel⟩
  refine ⟨e0, _, _, { s1 with heap := GG, toks := tk }, _, .ref C, some dx, rfl, J, fun b o z => ?_, ge, hx, ⟨rfl, rfl⟩, rfl, rfl, ?_, rfl, I1.bare, raises_own T.oex.exC T.oex.tyC, q dx hnd⟩
  · by_cases hb : b = e0
    · rw [hb, ge] at z; cases z
    · exact (gk b hb).symm.trans z
  · rw [upd_ne (Ne.symm hne)]; exact hne0
end
end GF

set_option Elab.async false
set_option linter.all false
set_option maxRecDepth 100000
set_option autoImplicit false
set_option maxHeartbeats 1000000
namespace GF
open PySem PySem.Spec PyProof.Rows L2

/-! ### try with several clauses, each with or without a name -/
abbrev Hnd := Value × Option Nat × (Ad → Value → Option Ad → TS)
/-- the ends of a suite whose name at slot i is let go -/
def endsAs (D : Ends) (i : Nat) : Ends := { nx := fun σ H => D.nx (σ.set i none) H, rt := D.rt, bk := fun σ H => D.bk (σ.set i none) H, ct := fun σ H => D.ct (σ.set i none) H }
def wG (K : PySem.W.Frag) (Wout : WX) (D : Ends) : List Hnd → WX
  | [] => Wout
  | (c, oi, ts) :: r => fun cls d σ H => ∃ b, PySem.W.exmOne K cls c = some b ∧ (b = true → ∀ a, H a = none → match oi with
    | none => ts a cls d D σ H
    | some i => ts a cls d (endsAs D i) (σ.set i (some (.ref a))) H) ∧ (b = false → wG K Wout D r cls d σ H)
def SuiteOk (X : Cx) (body : List Stmt) (ts : Ad → Value → Option Ad → TS) : Prop := ∀ (a : Ad) (oe : Obj) (cls : Value) (d : Option Ad) (pn : List (Ad × Obj)), Zc cls d oe → (∃ vs, oe.data = .fields vs) → PSs (X.suite a ((a, oe) :: pn)) body (ts a cls d)
inductive HdsG (X : Cx) : List ExceptHandler → List Hnd → Prop where
  | nil : HdsG X [] []
  | bare {x : Str} {c : Value} {ts : Ad → Value → Option Ad → TS} {b₀ : Stmt} {suite : List Stmt} {np pos' : Pos} {hds : List ExceptHandler} {l : List Hnd} (hc : Names X x c) (hsu : SuiteOk X (b₀ :: suite) ts) (r : HdsG X hds l) :
      HdsG X (.ExceptHandler (some (.Name x np)) none (b₀ :: suite) pos' :: hds) ((c, none, ts) :: l)
  | named {x n : Str} {i : Nat} {c : Value} {ts : Ad → Value → Option Ad → TS} {b₀ : Stmt} {suite : List Stmt} {np pos' : Pos} {hds : List ExceptHandler} {l : List Hnd} (hi : X.N[i]? = some n) (hn : X.env.kindOf n = some .local) (hc : Names X x c) (hsu : SuiteOk X (b₀ :: suite) ts)
      (r : HdsG X hds l) : HdsG X (.ExceptHandler (some (.Name x np)) (some n) (b₀ :: suite) pos' :: hds) ((c, some i, ts) :: l)
section
variable {X : Cx} {body : List Stmt} {h₀ : ExceptHandler} {hds : List ExceptHandler} {l : List Hnd} {pos : Pos} {tb : WX → TS} {Wout : WX}
/-- the exception that has come: what stands of it -/
structure Come (X : Cx) (pins : List (Ad × Obj)) (a : Ad) (B : Heap) (sI : Shared) (σ : St') (H : Hp) (cls : Value) (d : Option Ad) (s' : Shared) : Prop where
  inv : Inv X pins σ H sI
  nb : ∀ b o, sI.heap.get? b = some o → b ∉ frs X.stack → B.get? b = some o
  up : sI.heap.UpToSlots s'.heap
  fl : HandSPX.FlyingZ B (X.env :: X.outer) a (Zc cls d) s'.heap
  na : H a = none
  os : s'.os = sI.os
  ag : AllBare s'.gens
  nL : a ≠ X.env.locals
  nF : a ∉ X.fs
theorem handled (hs : X.stack = X.env :: X.outer) (hf : X.env.frame = some X.env.locals) (hN : X.N.Nodup) (tk : Takes X Wout) {D : Ends} {pins : List (Ad × Obj)} {a : Ad} {B : Heap} {sI : Shared} {σ : St'} {H : Hp} {cls : Value} {d : Option Ad} {s' : Shared}
    (C : Come X pins a B sI σ H cls d s') {hds : List ExceptHandler} {l : List Hnd} (hk : HdsG X hds l) : wG X.K Wout D l cls d σ H → wpAny (model X.prog X.w) X.A (handleBy (.ref a) X.env hds) (SP X pins D) X.xe s' := by
  have ok := C.inv.ok
  obtain ⟨oe, vs, he, hz, hd⟩ := C.fl.there
  have J : Inv X pins σ H s' := C.inv.landed C.nb C.fl.1 C.up C.os C.ag
  have S := J.suite he hd C.na C.nL C.nF
  have LT : PySem.W.Looks (model X.prog X.w) s'.heap (typeOf (.ref a)) cls := fun A Q E s k q => wpAny_typeOf_ref (k _ _ he) (by rw [hz.1]; exact q)
  have test : ∀ {x : Str} {c : Value} {np : Pos} {Q : Value → Shared → Prop} {E : Value → Shared → Prop}, Names X x c → Q c s' → wpAny (model X.prog X.w) (X.A.mark (some (.ref a))) (eval (.Name x np) X.env) Q E s' := fun {x c np Q E} hc q => by
    obtain ⟨hg, hdbg, hm | ⟨hm, hv, hnn⟩⟩ := hc
    · exact ld_glob (X := X.suite a ((a, oe) :: (X.pn ++ pins))) S hg hm q hdbg
    · exact ld_blt (X := X.suite a ((a, oe) :: (X.pn ++ pins))) S hg hm hv q hnn hdbg
  -- the suite begins: the exception stands again
  have begun : ∀ {R : Heap → Prop}, (∀ h4 oe4, Inv (X.suite a ((a, oe4) :: (X.pn ++ pins))) [] σ H { s' with heap := h4 } → Zc cls d oe4 → (∃ vs, oe4.data = .fields vs) → HandSPX.FlyingZ B (X.env :: X.outer) a (Zc cls d) h4 → s'.heap.UpToSlots h4 → R h4) →
      ∀ h4, HandSPX.FlyingZ B (X.env :: X.outer) a (Zc cls d) h4 → s'.heap.UpToSlots h4 → R h4 := fun {R} k h4 fl4 up4 => by
    have J4 : Inv X pins σ H { s' with heap := h4 } := C.inv.landed C.nb fl4.1 (C.up.trans up4) C.os C.ag
    obtain ⟨oe4, vs4, he4, hz4, hd4⟩ := fl4.there
    exact k h4 oe4 (J4.suite he4 hd4 C.na C.nL C.nF) hz4 ⟨vs4, hd4⟩ fl4 up4
  induction hk with
  | nil =>
    intro w
    refine wpAny_handleBy_nil ?_
    obtain ⟨k1, k2, k3, oe5, vs5, T, oT, ts5, he5, hz5, hd5, h1, hr⟩ := id C.fl
    unfold PySem.passOn
    refine wpAny_bind (wpAny_field he5 hd5 h1 ?_)
    rw [if_neg (show ¬ ((Value.ref T == Value.none) = true) from by simp)]
    have fin : wpAny (model X.prog X.w) X.A (setFlight (.ref a) X.env.frame) (fun _ s4 => wpAny (model X.prog X.w) X.A (throw (.ref a) : Sem PySem.Flow) (SP X pins D) X.xe s4) X.xe s' := by
      rw [hf]
      refine HandSPX.setFlight_upZ C.fl fun h4 hh4 up4 => wpAny_throw (tk _ _ ?_)
      exact ⟨a, B, sI, pins, σ, H, cls, d, rfl, C.inv, C.nb, C.up.trans up4, .inr (.inr (by rw [hs]; exact hh4)), C.na, C.os, C.ag, w⟩
    first
      | exact wpAny_bind (wpAny_pure (wpAny_bind fin))
      | exact wpAny_bind fin
  | @bare x c ts b₀ suite np pos' hds2 l2 hc hsu r ih =>
    intro w
    obtain ⟨b, hb1, hyes, hno⟩ := w
    refine wpAny_handleBy_cons (codeAny_handlers_test ?_) (by intro q; cases q)
    refine test hc ((PySem.W.exm_one (M := model X.prog X.w) J.kIn LT hb1).here ?_)
    cases b with
    | true =>
      refine codeAny_handlers_suite (HandSPX.lands_againZ C.fl (begun fun h4 oe4 S4 hz4 hf4 _ _ => ?_))
      refine wpAny_mono ((hsu a oe4 cls d (X.pn ++ pins) hz4 hf4).run [] _ _ H _ S4 (hyes rfl a C.na)) (fun f s6 hsp => ?_) (fun _ _ z => False.elim z)
      cases f with
      | next => obtain ⟨σ6, H6, S6, q6⟩ := hsp; exact ⟨_, _, S6.unsuite ok, q6⟩
      | brk => obtain ⟨σ6, H6, S6, q6⟩ := hsp; exact ⟨_, _, S6.unsuite ok, q6⟩
      | cont => obtain ⟨σ6, H6, S6, q6⟩ := hsp; exact ⟨_, _, S6.unsuite ok, q6⟩
      | ret u => obtain ⟨v6, σ6, H6, S6, r6, q6⟩ := hsp; exact ⟨_, _, _, S6.unsuite ok, r6, q6⟩
    | false => exact ih (hno rfl)
  | @named x n i c ts b₀ suite np pos' hds2 l2 hi hln hc hsu r ih =>
    intro w
    obtain ⟨b, hb1, hyes, hno⟩ := w
    refine wpAny_handleBy_cons (codeAny_handlers_test ?_) (by intro q; cases q)
    refine test hc ((PySem.W.exm_one (M := model X.prog X.w) J.kIn LT hb1).here ?_)
    cases b with
    | true =>
      refine codeAny_handlers_suite_as (HandSPX.lands_againZ C.fl (begun fun h4 oe4 S4 hz4 hf4 _ _ => ?_))
      refine store_ok (X := X.suite a ((a, oe4) :: (X.pn ++ pins))) (v := .ref a) S4 hN hi (.inl hln) rfl (fun s5 S5 => ?_) (.inr hln)
      refine wpAny_mono ((hsu a oe4 cls d (X.pn ++ pins) hz4 hf4).run [] s5 _ H _ S5 (hyes rfl a C.na)) (fun f s6 hsp => ?_) (fun _ _ z => False.elim z)
      have end_ : ∀ {σ6 : St'} {H6 : Hp} {Q : Shared → Prop}, Inv (X.suite a ((a, oe4) :: (X.pn ++ pins))) [] σ6 H6 s6 → (∀ s7, Inv X pins (σ6.set i none) H6 s7 → Q s7) →
          wpAny (model X.prog X.w) X.A (do bindName X.env n .none; unbindBehindTheSuite X.env n pos') (fun _ s7 => Q s7) X.xe s6 := fun {σ6 H6 Q} S6 hq => gone_ok (S6.unsuite ok) hN hi hln hq
      cases f with
      | next => obtain ⟨σ6, H6, S6, q6⟩ := hsp; exact end_ S6 fun s7 J7 => ⟨_, _, J7, q6⟩
      | brk => obtain ⟨σ6, H6, S6, q6⟩ := hsp; exact end_ S6 fun s7 J7 => ⟨_, _, J7, q6⟩
      | cont => obtain ⟨σ6, H6, S6, q6⟩ := hsp; exact end_ S6 fun s7 J7 => ⟨_, _, J7, q6⟩
      | ret u => obtain ⟨v6, σ6, H6, S6, r6, q6⟩ := hsp; exact end_ S6 fun s7 J7 => ⟨_, _, _, J7, r6, q6⟩
    | false => exact ih (hno rfl)
theorem ps_try_g (hs : X.stack = X.env :: X.outer) (hf : X.env.frame = some X.env.locals) (hN : X.N.Nodup) (tk : Takes X Wout)
    (hb : ∀ (W : WX) (pn : List (Ad × Obj)) (xe : Value → Shared → Prop), Takes (X.tr pn xe) W → PassesOwn (model X.prog X.w) X.A X.env xe → PSs (X.tr pn xe) body (tb W))
    (hh : HdsG X (h₀ :: hds) l) : PS X (.Try body (h₀ :: hds) [] [] pos) (fun D σ H => tb (wG X.K Wout D l) D σ H) := by
  refine ⟨fun pins s σ H D I h => ?_⟩
  have ok := I.ok
  have hfr : X.A.frames = some (X.env :: X.outer) := by rw [ok.frames, hs]
  refine wpAny_Try_except ?_
  refine wpAny_mono ((hb (wG X.K Wout D l) (X.pn ++ pins) (fun e s₁ => wpAny (model X.prog X.w) X.A (noteFrame e X.env) (fun _ s₂ => wpAny (model X.prog X.w) X.A (setFlight e none) (fun _ s₃ =>
    wpAny (model X.prog X.w) X.A (handleBy e X.env (h₀ :: hds)) (SP X pins D) X.xe s₃) X.xe s₂) X.xe s₁) (fun u s' xx => ?_) PassesOwn.looking).run [] s σ H D (I.toTry _) h) (fun f s1 hsp => ?_) (fun e s1 he => he)
  · obtain ⟨a, B, sI, pins', σ', H', cls, d, rfl, J', nb, up, sky, na, os, ag, w⟩ := xx
    have J : Inv X pins σ' H' sI := J'.ofTry ok
    have sky' : Sky B (X.env :: X.outer) a (Zc cls d) X.env.locals s'.heap := by rw [← hs]; exact sky
    show wpAny (model X.prog X.w) X.A (noteFrame (.ref a) X.env) _ _ _
    refine Sky.land Zc.steady hfr hf sky' fun h3 fl3 up3 => ?_
    obtain ⟨oe3, vs3, he3, hz3, hd3⟩ := fl3.there
    have nfr : a ∉ frs (X.env :: X.outer) := fun hm => by
      obtain ⟨_, o', e', hnf⟩ := fl3.2.2.1.mem hm
      rw [he3] at e'; cases e'
      exact hnf _ hd3
    refine handled (s' := { s' with heap := h3 }) hs hf hN tk ⟨J, nb, up.trans up3, fl3, na, os, ag, fun z => nfr (List.mem_filterMap.mpr ⟨X.env, List.mem_cons_self, by rw [hf, z]⟩), fun hm => ?_⟩ hh w
    obtain ⟨e, he, q⟩ := List.mem_filterMap.mp hm
    exact nfr (List.mem_filterMap.mpr ⟨e, List.mem_cons_of_mem _ he, q⟩)
  · cases f with
    | next => obtain ⟨σ', H', J', q⟩ := hsp; exact wpAny_execs_nil ⟨σ', H', J'.ofTry ok, q⟩
    | brk => obtain ⟨σ', H', J', q⟩ := hsp; exact ⟨σ', H', J'.ofTry ok, q⟩
    | cont => obtain ⟨σ', H', J', q⟩ := hsp; exact ⟨σ', H', J'.ofTry ok, q⟩
    | ret u => obtain ⟨v, σ', H', J', r, q⟩ := hsp; exact ⟨v, σ', H', J'.ofTry ok, r, q⟩
end
end GF

set_option Elab.async false
set_option linter.all false
set_option maxRecDepth 100000
set_option autoImplicit false
set_option maxHeartbeats 1000000
namespace GF
open PySem PySem.Spec PyProof.Rows L2

section
variable {X : Cx} {ti : Ti} {G : Ge} {Φ : Nat → FM} {k : Nat} {eA : EA} {c : Cs} {P : Hp} {W : WX} {A0 : List Ad} {pos p px : Pos} {b0 : Nat}
variable {F F1 : Hp} {A A1 A0' : List Ad} {σ : St'} {H : Hp} {s s1 : S} {D : Ends} {fg : List Nat}

/-! ### for i, x in enumerate(e) -/
theorem itv_walk {Src : Hp → Prop} {xs : List GF.D} {vs : List V} (hs : ∀ H, Ext F H → Src H) (hr : Reps G F xs vs) : WalkS G F A eA ((enumL 0 xs).map .d) (Itv Src vs) := by
  have gl : ∀ (ys : List GF.D) (n i : Nat), (enumL n ys)[i]? = (ys[i]?).map fun y => .tup [.int ((n + i : Nat) : Int), y] := by
    intro ys
    induction ys with
    | nil => intro n i; simp [enumL]
    | cons y ys ih =>
      intro n i
      cases i with
      | zero => simp [enumL]
      | succ i =>
        rw [enumL, List.getElem?_cons_succ, List.getElem?_cons_succ, ih]
        have : n + 1 + i = n + (i + 1) := by omega
        rw [this]
  have ll : ∀ (ys : List GF.D) (n : Nat), (enumL n ys).length = ys.length := by
    intro ys
    induction ys with
    | nil => intro n; rfl
    | cons y ys ih => intro n; rw [enumL, List.length_cons, List.length_cons, ih]
  have hl : ((enumL 0 xs).map Sl.d).length = vs.length := by rw [List.length_map, ll, hr.length]
  exact {
    go := fun i H e hi => ⟨hs H e, by rw [← hl]; exact hi⟩
    stop := fun H e => ⟨hs H e, hl⟩
    yld := fun i H v H' x e hx ⟨T, u, hv, hT, hH, hu⟩ => by
      rw [List.getElem?_map, gl] at hx
      obtain ⟨y, hy, rfl⟩ := Option.map_eq_some_iff.mp hx
      obtain ⟨z, hz, rfl⟩ := Option.map_eq_some_iff.mp hy
      obtain ⟨d, hd, rd⟩ := hr.getV hu
      rw [hz] at hd
      cases hd
      rw [Nat.zero_add]
      exact .inr ⟨T, _, _, hT, hH, hv, rfl, .cons (.int _) (.cons rd .nil)⟩ }
theorem snd_forE {i j : Nat} {e : E} {b : Bl} {x y : Str} {py tp p2 fp : Pos} {kk : Nat} {v : Expr} {sts : List Stmt} (hX : SOk ti G Φ k eA c X) (tk : Takes X W) (hc : c.calm = true) (hg : glB c "enumerate" = true) (hm : ti.free.contains "enumerate" = true) (hi : slotL c i x = true) (hj : slotL c j y = true) (hv : okE ti c e v = true)
    (hb : PSs X sts (TSt G P eA W A0 (evB G.tb Φ b0 b))) : PS X (.For (.Tuple [.Name x px, .Name y py] kk tp) (.Call (.Name "enumerate" fp) [v] [] p2) sts [] pos) (TSt G P eA W A0 (evS G.tb Φ b0 (.forE i j e fg b))) := by
  have hsl : slotsL c [i, j] [.Name x px, .Name y py] = true := by simp [slotsL, hi, hj]
  obtain ⟨h1, h2, h3⟩ := slots_pgs hX hsl
  refine (ps_for hX.po (hX.calm hc) (pi_enumG hX.toXOk hg hm (ok_notStar hv).1 (sndE e (P := P) hX.toXOk tk hv)) (pg_tup (hX.calm hc) h1 h2 h3) hb (fun _ => rfl)).wk fun D σ H ⟨s, F, A, p0, r, h⟩ => ?_
  rw [evS] at h
  refine TV.ofS p0 r h fun u s1 F1 A1 H1 w e1 p1 p1' r1 ru q1 => ?_
  have hlen : (clean fg s1.M.length s1).M.length = s1.M.length := by
    show (s1.M.take s1.M.length).length = _
    rw [List.take_length]
  have hA1 : A1.take s1.M.length = A1 := by rw [← r1.mem.len, List.take_length]
  split at q1
  · split at q1
    case isFalse => exact q1.elim
    rename_i xs hbl
    have rc := r1.cleaned hbl
    rw [hA1] at rc
    obtain ⟨a, vs, rfl, k1, k2⟩ := Rep.lst_ ru
    exact .inl ⟨a, vs, rfl, SqL.of (r1.mem.ex _ _ k1), for_read (List.prefix_refl _) p1' hlen rc (itv_walk (fun H e => SqL.of (e _ _ k1)) k2) (keeps_data _) (setTwo_ok hX.K) (fun D σ H q => q) q1⟩
  · split at q1
    case isFalse => exact q1.elim
    rename_i xs hbl
    have rc := r1.cleaned hbl
    rw [hA1] at rc
    obtain ⟨a, vs, rfl, k1, k2⟩ := Rep.tup_ ru
    rw [hX.K] at k1
    exact .inr (.inl ⟨a, vs, rfl, ext_t r1.mem.ex k1, for_read (List.prefix_refl _) p1' hlen rc (itv_walk (fun H e => ext_t e k1) k2) (keeps_data _) (setTwo_ok hX.K) (fun D σ H q => q) q1⟩)
  · split at q1
    case isFalse => exact q1.elim
    rename_i t hbl
    have rc := r1.cleaned hbl
    rw [hA1] at rc
    obtain ⟨rfl, ot⟩ := Rep.str_ ru
    have hr : Reps G F1 (t.map fun c => GF.D.str [c]) (t.map fun c => V.str ⟨#[c]⟩) := by
      have : ∀ t' : Tx, (∀ c ∈ t', c ∈ t) → Reps G F1 (t'.map fun c => GF.D.str [c]) (t'.map fun c => V.str ⟨#[c]⟩) := by
        intro t'
        induction t' with
        | nil => intro _; exact .nil
        | cons c t' ih => intro hh; exact .cons (.str [c] (okT_one ot (hh c List.mem_cons_self))) (ih fun d hd => hh d (List.mem_cons_of_mem _ hd))
      exact this t fun c h => h
    exact .inr (.inr ⟨t, rfl, for_read (List.prefix_refl _) p1' hlen rc (itv_walk (fun H e => trivial) hr) (keeps_data _) (setTwo_ok hX.K) (fun D σ H q => q) q1⟩)
  · exact q1.elim

/-! ### raise -/
/-- what is known of the classes that are raised -/
def RaiOk (ti : Ti) (G : Ge) (X : Cx) : Prop := ∀ (n : Nat) (i : ClsI), ti.rais.contains n = true → ti.tb.cls[n]? = some i → (i.flds = [] ∧ ExcN X.K (G.cad n)) ∨ ∃ f, i.flds = [f] ∧ ExcI X.K X.prog X.w X.mg (G.cad n) (Str.ofString f) FldOk
theorem fld_of {x : GF.D} {v : V} (h : raiOk [x] = true) (r : Rep G F x v) (u : Value) (ru : RelV v u) : FldOk u := by
  cases x with
  | int i =>
    cases r
    obtain ⟨t, rfl⟩ := ru
    exact .inl ⟨i, t, rfl, of_decide_eq_true h⟩
  | str t =>
    obtain ⟨rfl, ot⟩ := Rep.str_ r
    obtain ⟨tk, rfl⟩ := ru
    exact .inr ⟨t, tk, rfl, ot, of_decide_eq_true h⟩
  | non => cases h
  | bl _ => cases h
  | lst _ => cases h
  | tup _ => cases h
  | obj _ _ => cases h
  | scr _ => cases h
theorem snd_rai {n : Nat} {as : As} {x : Str} {es : List Expr} {i : ClsI} (hX : SOk ti G Φ k eA c X) (tk : Takes X W) (hR : RaiOk ti G X) (hc : c.calm = true) (hg : glB c x = true) (hok : okA ti c as es = true) (hx : ti.clsn[n]? = some x) (hr : ti.rais.contains n = true) (hi : ti.tb.cls[n]? = some i) (hl : i.flds.length = es.length) :
    PS X (.Raise (some (.Call (.Name x p) es [] px)) none pos) (TSt G P eA W A0 (evS G.tb Φ b0 (.rai n as))) := by
  obtain ⟨g1, g2⟩ := gl_of hX.toXOk hg
  have hm := hX.clsn n x hx
  rcases hR n i hr hi with ⟨h1, T⟩ | ⟨f, h1, T⟩
  · have he : es = [] := List.eq_nil_of_length_eq_zero (by rw [← hl, h1]; rfl)
    subst he
    cases as with
    | cons _ _ => simp [okA] at hok
    | nil =>
      refine (ps_raise (hX.calm hc) tk (pmk_excN T g1 hm g2)).wk fun D σ H ⟨s, F, A, p0, r, h⟩ => ?_
      rw [evS, evA, R.bind_ok] at h
      have h' : PstS G P eA W A0 D F (R.exc n [] s) := by
        have e : (G.tb.cls[n]?).map (fun i => i.flds.length) = some ([] : List GF.D).length := by rw [hX.tb, hi]; show some i.flds.length = _; rw [h1]; rfl
        simp only [datas, raiOk, e] at h
        exact h
      exact h' _ _ σ F A H Ext.refl p0 r ⟨rfl, .inl ⟨rfl, rfl⟩⟩
  · obtain ⟨e1, rfl⟩ : ∃ e1, es = [e1] := by
      rw [h1] at hl
      match es, hl with
      | [e1], _ => exact ⟨e1, rfl⟩
    have hst : starEach [e1] X.env = (false, eval e1 X.env) :: starEach [] X.env := (args_plain (as := as) (es := []) hok X.env pos).1
    have hd : X.A.depth + 1 < recursionLimit := by have := (hX.room hc).dp; omega
    refine (ps_raise (hX.calm hc) tk (pmk_excI T hd g1 hm g2 (sndA as (P := P) hX.toXOk tk hok) hst)).wk fun D σ H ⟨s, F, A, p0, r, h⟩ => ?_
    rw [evS] at h
    refine TAr.ofS p0 r h fun vs s1 F1 A1 H1 us e1' p1 r1 rus q1 => ?_
    split at q1
    case h_2 => exact q1.elim
    rename_i ds hds
    split at q1
    case isFalse => exact q1.elim
    rename_i hro
    have hlen : ds.length = 1 := by
      have := hro.2
      rw [hX.tb, hi] at this
      have this : i.flds.length = ds.length := Option.some.inj this
      rw [h1] at this
      exact this.symm
    obtain ⟨d, rfl⟩ : ∃ d, ds = [d] := by
      match ds, hlen with
      | [d], _ => exact ⟨d, rfl⟩
    have hrep := reps_of hds rus
    cases hrep with | @cons _ v _ _ rd rt =>
    cases rt
    refine ⟨v, rfl, fun u ru => fld_of hro.1 rd u ru, fun dx hdx => ?_⟩
    have e' : Ext F1 (upd F1 dx (.xd [(Str.ofString f, v)])) := Ext.new (r1.mem.ex.back hdx)
    refine q1 _ _ σ _ A1 _ e' p1 (r1.mono' e' (r1.mem.laid hdx)) ⟨rfl, .inr ⟨dx, [(Str.ofString f, v)], [v], rfl, upd_same, ?_, rfl, .cons (rd.mono e') .nil⟩⟩
    rw [hX.cls.nms n i (by rw [hX.tb]; exact hi), h1]
    rfl

/-! ### try -/
theorem noEx_spec : ∀ {ρ : List (Option Sl)}, noEx ρ = true → ∀ (i : Nat) (c : Nat) (fs : List GF.D), ρ[i]? ≠ some (some (.exn c fs))
  | [], _, i, c, fs => by simp
  | x :: r, h, i, c, fs => by
    cases i with
    | zero =>
      intro z
      simp at z
      subst z
      simp [noEx] at h
    | succ i =>
      intro z
      simp at z
      refine noEx_spec (ρ := r) ?_ i c fs z
      cases x with
      | none => exact h
      | some v => cases v <;> first | exact h | (simp [noEx] at h)
theorem RelS.reEx {eA eA' : EA} (r : RelS G P eA s F A σ H) (h : ∀ (i c : Nat) (fs : List GF.D), s.ρ[i]? ≠ some (some (.exn c fs))) : RelS G P eA' s F A σ H :=
  ⟨r.mem, fun i v e => by
    obtain ⟨u, k1, k2⟩ := r.slots i v e
    refine ⟨u, k1, ?_⟩
    cases v with
    | d x => exact k2
    | ref j => exact k2
    | exn c fs => exact absurd e (h i c fs), r.slen⟩
theorem RelS.noneEx (r : RelS G P none s F A σ H) (i c : Nat) (fs : List GF.D) : s.ρ[i]? ≠ some (some (.exn c fs)) := fun e => by
  obtain ⟨u, _, a, C, d, z, _⟩ := r.slots i _ e
  cases z
theorem RelS.unset2 (r : RelS G P eA s F A σ H) (i : Nat) : RelS G P eA ⟨s.ρ.set i none, s.M⟩ F A (σ.set i none) H := by
  have r1 := r.unset i
  refine ⟨r1.mem, fun j v e => ?_, by simp [r.slen]⟩
  obtain ⟨u, k1, k2⟩ := r1.slots j v e
  refine ⟨u, ?_, k2⟩
  have hj : j ≠ i := fun z => by
    subst z
    have e' : (s.ρ.set j none)[j]? = some (some v) := e
    by_cases hl : j < s.ρ.length
    · rw [List.getElem?_set_self hl] at e'; cases e'
    · rw [List.getElem?_eq_none (by simp; omega)] at e'; cases e'
  rw [List.getElem?_set_ne (Ne.symm hj)]
  exact k1
/-- the clauses' readings -/
def hndOf (G : Ge) (Φ : Nat → FM) (P : Hp) (A0 : List Ad) (b0 : Nat) : Hs → List Hnd
  | .nil => []
  | .cons k i b hs => (.ref (G.cad k), i, fun a cls d => fun D σ H => ∃ C, cls = .ref C ∧ TSt G P (match i with | none => none | some _ => some (a, C, d)) Wf A0 (evB G.tb Φ b0 b) D σ H) :: hndOf G Φ P A0 b0 hs
theorem ok_only {r : R GF.Flow} {f : R GF.Flow → R GF.Flow} (h : PstS G P eA W A0 D F (match r with | .ok f s' => .ok f s' | _ => .stuck)) : PstS G P eA Wf A0 D F r := by
  cases r with
  | ok f s' => exact h
  | exc _ _ _ => exact h.elim
  | stuck => exact h
theorem wG_read (hK : G.K = X.K) (hC : ClsOk G) {cx : Nat} {fs : List GF.D} {Ca : Ad} {d : Option Ad} (hE : ExnR G F cx fs Ca d) (p0 : A0 <+: A) (r : RelS G P none s F A σ H) : ∀ (hs : Hs), PstS G P none W A0 D F (evH G.tb Φ b0 hs cx fs s) → wG X.K W D (hndOf G Φ P A0 b0 hs) (.ref Ca) d σ H
  | .nil, h => by
    rw [evH] at h
    exact h Ca d σ F A H Ext.refl p0 r hE
  | .cons kx i b hs, h => by
    unfold evH at h
    split at h
    case isFalse => exact h.elim
    rename_i hh
    refine ⟨G.tb.isSub cx kx, ?_, fun hb a ha => ?_, fun hb => ?_⟩
    · rw [hE.1, ← hK]
      exact hC.exm cx kx hh.1 hh.2.1 hh.2.2.1 hh.2.2.2
    · rw [if_pos hb] at h
      cases i with
      | none =>
        refine ⟨Ca, rfl, s, F, A, p0, r, ?_⟩
        cases hev : evB G.tb Φ b0 b s with
        | ok f s' => simp only [hev] at h; exact h
        | exc _ _ _ => simp only [hev] at h; exact h.elim
        | stuck => simp only [hev] at h; exact h.elim
      | some i =>
        simp only at h
        split at h
        case isFalse => exact h.elim
        rename_i hi
        refine ⟨Ca, rfl, s.put i (.exn cx fs), F, A, p0, (r.reEx (eA' := some (a, Ca, d)) r.noneEx).put (v := .exn cx fs) ⟨a, Ca, d, rfl, rfl, hE⟩ hi, ?_⟩
        cases hev : evB G.tb Φ b0 b (s.put i (.exn cx fs)) with
        | ok f s' =>
          simp only [hev] at h
          split at h
          case isFalse => exact h.elim
          rename_i hn
          intro σ' F' A' H' e' p' r'
          have r2 : RelS G P none ⟨s'.ρ.set i none, s'.M⟩ F' A' (σ'.set i none) H' := (r'.unset2 i).reEx (noEx_spec hn)
          have r3 : RelS G P none ⟨s'.ρ.set i none, s'.M⟩ F' A' σ' H' := (r'.unset i).reEx (noEx_spec hn)
          cases f with
          | next => exact h (σ'.set i none) F' A' H' e' p' r2
          | brk => exact h (σ'.set i none) F' A' H' e' p' r2
          | cont => exact h (σ'.set i none) F' A' H' e' p' r2
          | ret v => exact h σ' F' A' H' e' p' r3
        | exc _ _ _ => simp only [hev] at h; exact h.elim
        | stuck => simp only [hev] at h; exact h.elim
    · rw [if_neg (by rw [hb]; exact Bool.false_ne_true)] at h
      exact wG_read hK hC hE p0 r hs h
theorem SOk.tr (hX : SOk ti G Φ k none c X) {pn : List (Ad × Obj)} {xe : Value → Shared → Prop} (hp : PassesOwn (model X.prog X.w) X.A X.env xe) : SOk ti G Φ k none c (X.tr pn xe) where
  toXOk := { hX.toXOk with exn := fun a C d z => by cases z }
  fn := hX.fn
  hs := hX.hs
  hf := hX.hf
  po := hp
theorem SOk.suite {a C : Ad} {d : Option Ad} {oe : Obj} {pn : List (Ad × Obj)} (hX : SOk ti G Φ k none c X) (hz : Zc (.ref C) d oe) (hv : ∃ vs, oe.data = .fields vs) (eA' : EA) (he : eA' = none ∨ eA' = some (a, C, d)) :
    SOk ti G Φ k eA' { c with calm := false } (X.suite a ((a, oe) :: pn)) where
  toXOk := { K := hX.K, tb := hX.tb, N := hX.N, nd := hX.nd, sc := hX.sc, hu := hX.hu, calm := fun z => (by cases z), room := fun z => (by cases z), roomH := ⟨hX.roomH.dp, hX.roomH.un⟩, free := hX.free, gcd := hX.gcd, consts := hX.consts, fns := hX.fns, cls := hX.cls, clsn := hX.clsn, mp := hX.mp, eAc := fun z => (by cases z)
             exn := fun a' C' d' z => by
               rcases he with he | he
               · rw [he] at z; cases z
               · rw [he] at z
                 cases z
                 exact ⟨oe, List.mem_cons_self, hz, hv⟩ }
  fn := hX.fn
  hs := hX.hs
  hf := hX.hf
  po := PassesOwn.never
end
end GF

set_option Elab.async false
set_option linter.all false
set_option maxRecDepth 100000
set_option autoImplicit false
set_option maxHeartbeats 1000000
namespace GF
open PySem PySem.Spec PyProof.Rows L2

section
variable {ti : Ti} {G : Ge} {Φ : Nat → FM} {k : Nat}
theorem RaiOk.tr {X : Cx} {pn : List (Ad × Obj)} {xe : Value → Shared → Prop} (h : RaiOk ti G X) : RaiOk ti G (X.tr pn xe) := h
theorem RaiOk.suite {X : Cx} {a : Ad} {pn : List (Ad × Obj)} (h : RaiOk ti G X) : RaiOk ti G (X.suite a pn) := h
mutual
theorem sndS : ∀ (st : GF.St) {X : Cx} {c : Cs} {eA : EA} {P : Hp} {W : WX} {A0 : List Ad} {x : Stmt}, SOk ti G Φ k eA c X → RaiOk ti G X → Takes X W → okS ti c st x = true → PS X x (TSt G P eA W A0 (evS G.tb Φ A0.length st))
  | .set i e, X, c, eA, P, W, A0, x, hX, hR, tk, h => by
    unfold okS at h
    split at h
    · simp only [Bool.and_eq_true] at h
      exact snd_setE hX tk h.1 h.2.1 h.2.2
    · cases h
  | .setN i n, X, c, eA, P, W, A0, x, hX, hR, tk, h => by
    unfold okS at h
    split at h
    · simp only [Bool.and_eq_true] at h
      exact snd_asgN (P := P) (W := W) hX tk h.1 h.2.1 h.2.2 fun D σ H q => sndN_gname q
    · cases h
  | .setR i n, X, c, eA, P, W, A0, x, hX, hR, tk, h => by
    unfold okS at h
    split at h
    · simp only [Bool.and_eq_true] at h
      exact snd_asgN (P := P) (W := W) hX tk h.1 h.2.1 h.2.2 fun D σ H q => sndR_gname rfl q
    · cases h
  | .setsub i x' e, X, c, eA, P, W, A0, x, hX, hR, tk, h => by
    unfold okS at h
    split at h
    · simp only [Bool.and_eq_true, Bool.not_eq_true'] at h
      exact snd_setsub hX tk h.1 h.2.1 h.2.2.1 h.2.2.2
    · cases h
  | .setfld i x' e, X, c, eA, P, W, A0, x, hX, hR, tk, h => by
    unfold okS at h
    split at h
    · simp only [Bool.and_eq_true, Bool.not_eq_true', decide_eq_true_eq] at h
      exact snd_setfld hX tk h.1 h.2.1 h.2.2.1 h.2.2.2
    · cases h
  | .augsub i x' o e, X, c, eA, P, W, A0, x, hX, hR, tk, h => by
    unfold okS at h
    split at h
    · simp only [Bool.and_eq_true, decide_eq_true_eq] at h
      obtain ⟨h1, h2, h3, rfl, h4⟩ := h
      exact snd_augsub hX tk h1 h2 h3 h4
    · cases h
  | .aug i o e, X, c, eA, P, W, A0, x, hX, hR, tk, h => by
    unfold okS at h
    split at h
    · simp only [Bool.and_eq_true, decide_eq_true_eq] at h
      obtain ⟨h1, h2, rfl, h4⟩ := h
      exact snd_aug hX tk h1 h2 h4
    · cases h
  | .unp is e, X, c, eA, P, W, A0, x, hX, hR, tk, h => by
    unfold okS at h
    split at h
    · simp only [Bool.and_eq_true, Bool.not_eq_true'] at h
      exact snd_unp hX tk h.1 h.2.1 h.2.2.1 h.2.2.2.1 h.2.2.2.2
    · cases h
  | .par2 i j a b, X, c, eA, P, W, A0, x, hX, hR, tk, h => by
    unfold okS at h
    split at h
    · simp only [Bool.and_eq_true, Bool.not_eq_true', decide_eq_true_eq] at h
      obtain ⟨h1, h2, h3, h4, h5, h6, h7, h8, h9, h10, h11, h12⟩ := h
      exact snd_par2 hX tk h1 h2 h3 h4 h5 h6 h7 h8 h9 h10 h11 h12
    · cases h
  | .par3 i j l a b d, X, c, eA, P, W, A0, x, hX, hR, tk, h => by
    unfold okS at h
    split at h
    · simp only [Bool.and_eq_true, Bool.not_eq_true', decide_eq_true_eq] at h
      obtain ⟨h1, h2, h3, h4, ⟨h5, h6, h7⟩, ⟨h8, h9, h10⟩, ⟨h11, h12⟩, h13, h14, h15, ⟨h16, h17, h18⟩, h19, h20⟩ := h
      exact snd_par3 hX tk h1 h2 h3 h4 h5 h6 h7 h8 h9 h10 h11 h12 h13 h14 h15 h16 h17 h18 h19 h20
    · cases h
  | .ex e, X, c, eA, P, W, A0, x, hX, hR, tk, h => by
    unfold okS at h
    split at h
    · simp only [Bool.and_eq_true, Bool.not_eq_true'] at h
      exact snd_ex hX tk h.1 h.2
    · cases h
  | .ret e, X, c, eA, P, W, A0, x, hX, hR, tk, h => by
    unfold okS at h
    split at h
    · exact snd_ret hX tk h
    · cases h
  | .retN n, X, c, eA, P, W, A0, x, hX, hR, tk, h => by
    unfold okS at h
    split at h
    · exact snd_retN hX tk h
    · cases h
  | .retC i, X, c, eA, P, W, A0, x, hX, hR, tk, h => by
    unfold okS at h
    split at h
    · exact snd_retC hX rfl h
    · cases h
  | .ret0, X, c, eA, P, W, A0, x, hX, hR, tk, h => by
    unfold okS at h
    split at h
    · exact snd_ret0
    · cases h
  | .ifs t a b, X, c, eA, P, W, A0, x, hX, hR, tk, h => by
    unfold okS at h
    split at h
    · simp only [Bool.and_eq_true] at h
      exact snd_ifs (sndT t hX.toXOk tk h.1) (sndB a hX hR tk h.2.1) (sndB b hX hR tk h.2.2)
    · cases h
  | .for1 i it fg b, X, c, eA, P, W, A0, x, hX, hR, tk, h => by
    unfold okS at h
    split at h
    · simp only [Bool.and_eq_true] at h
      exact snd_for1 hX tk h.1 h.2.1 h.2.2.1 (sndB b hX hR tk h.2.2.2)
    · cases h
  | .forD i as fg b, X, c, eA, P, W, A0, x, hX, hR, tk, h => by
    unfold okS at h
    split at h
    · rw [Bool.and_eq_true, Bool.and_eq_true, Bool.and_eq_true] at h
      exact snd_forD hX tk h.1 h.2.1 h.2.2.2 fun A0' => sndB b hX hR tk h.2.2.1
    · cases h
  | .forE i j e fg b, X, c, eA, P, W, A0, x, hX, hR, tk, h => by
    unfold okS at h
    split at h
    · simp only [Bool.and_eq_true, decide_eq_true_eq] at h
      obtain ⟨h1, rfl, h3, h4, h5, h6, h7, h8⟩ := h
      exact snd_forE hX tk h1 h3 h4 h5 h6 h7 (sndB b hX hR tk h8)
    · cases h
  | .forC i src n fg b, X, c, eA, P, W, A0, x, hX, hR, tk, h => by
    unfold okS at h
    split at h
    · simp only [Bool.and_eq_true] at h
      exact snd_forC hX h.1 h.2.1 h.2.2.1 fun A0' => sndB b hX hR tk h.2.2.2
    · cases h
  | .whl n t fg b, X, c, eA, P, W, A0, x, hX, hR, tk, h => by
    unfold okS at h
    split at h
    · simp only [Bool.and_eq_true] at h
      exact snd_whl hX (sndT t hX.toXOk tk h.1) (sndB b hX hR tk h.2)
    · cases h
  | .brk, X, c, eA, P, W, A0, x, hX, hR, tk, h => by
    unfold okS at h
    split at h
    · exact snd_brk
    · cases h
  | .cont, X, c, eA, P, W, A0, x, hX, hR, tk, h => by
    unfold okS at h
    split at h
    · exact snd_cont
    · cases h
  | .pass, X, c, eA, P, W, A0, x, hX, hR, tk, h => by
    unfold okS at h
    split at h
    · exact snd_pass
    · cases h
  | .rai n as, X, c, eA, P, W, A0, x, hX, hR, tk, h => by
    unfold okS at h
    split at h
    · simp only [Bool.and_eq_true, decide_eq_true_eq] at h
      obtain ⟨h1, h2, h3, h4, h5, h6, h7⟩ := h
      split at h7
      · rename_i i hi
        rw [Bool.and_eq_true, decide_eq_true_eq] at h7
        exact snd_rai hX tk hR h1 h2 h3 h4 h6 hi h7.2
      · cases h7
    · cases h
  | .tryS b hs, X, c, eA, P, W, A0, x, hX, hR, tk, h => by
    unfold okS at h
    split at h
    · rename_i body hds pos
      simp only [Bool.and_eq_true, Bool.not_eq_true'] at h
      obtain ⟨hc, h1, h2, h3⟩ := h
      have he := hX.eAc hc
      subst he
      match hds, h2, h3 with
      | h0 :: hds, h2, _ =>
        refine (ps_try_g (l := hndOf G Φ P A0 A0.length hs) (tb := fun W => TSt G P none W A0 (evB G.tb Φ A0.length b)) hX.hs hX.hf hX.nd tk (fun W pn xe tk' hp => sndB b (hX.tr hp) hR.tr tk' h1) (sndH hs (P := P) (A0 := A0) hX hR h2)).wk fun D σ H ⟨s, F, A, p0, r, q⟩ => ?_
        unfold evS at q
        refine ⟨s, F, A, p0, r, ?_⟩
        cases hev : evB G.tb Φ A0.length b s with
        | ok f s' => simp only [hev] at q; exact q
        | stuck => simp only [hev] at q; exact q.elim
        | exc cx fs s' =>
          simp only [hev] at q
          exact fun C d σ' F' A' H' e' p' r' hE => wG_read hX.K hX.cls hE p' r' hs (PstS.mono e' q)
    · cases h
theorem sndB : ∀ (b : Bl) {X : Cx} {c : Cs} {eA : EA} {P : Hp} {W : WX} {A0 : List Ad} {xs : List Stmt}, SOk ti G Φ k eA c X → RaiOk ti G X → Takes X W → okB ti c b xs = true → PSs X xs (TSt G P eA W A0 (evB G.tb Φ A0.length b))
  | .nil, X, c, eA, P, W, A0, xs, hX, hR, tk, h => by
    unfold okB at h
    split at h
    · exact snd_nil
    · cases h
  | .cons st b, X, c, eA, P, W, A0, xs, hX, hR, tk, h => by
    unfold okB at h
    split at h
    · rw [Bool.and_eq_true] at h
      exact snd_cons (sndS st hX hR tk h.1) (sndB b hX hR tk h.2)
    · cases h
  | .gh g b, X, c, eA, P, W, A0, xs, hX, hR, tk, h => by
    unfold okB at h
    exact snd_gh rfl (sndB b hX hR tk h)
theorem sndH : ∀ (hs : Hs) {X : Cx} {c : Cs} {P : Hp} {A0 : List Ad} {hds : List ExceptHandler}, SOk ti G Φ k none c X → RaiOk ti G X → okH ti c hs hds = true → HdsG X hds (hndOf G Φ P A0 A0.length hs)
  | .nil, X, c, P, A0, hds, hX, hR, h => by
    unfold okH at h
    split at h
    · exact .nil
    · cases h
  | .cons kx i b hs, X, c, P, A0, hds, hX, hR, h => by
    unfold okH at h
    split at h
    · rename_i x np nm b0 body pos r
      simp only [Bool.and_eq_true, decide_eq_true_eq] at h
      obtain ⟨h1, h2, h3, h4, h5, h6⟩ := h
      obtain ⟨g1, g2⟩ := gl_of hX.toXOk h1
      have hn : Names X x (.ref (G.cad kx)) := ⟨g1, g2, .inl (hX.clsn kx x h2)⟩
      have rest := sndH hs (P := P) (A0 := A0) hX hR h5
      split at h6
      · refine .bare hn (fun a oe cls d pn hz hv => ⟨fun pins s σ H D I ⟨C, e, q⟩ => ?_⟩) rest
        subst e
        exact (sndB b (P := P) (W := Wf) (A0 := A0) (hX.suite hz hv none (.inl rfl)) hR.suite takes_blk h4).run pins s σ H D I q
      · rename_i i n
        rw [Bool.and_eq_true, decide_eq_true_eq, decide_eq_true_eq] at h6
        refine .named (by rw [hX.N]; exact h6.1) (by show X.env.scope.names.lookup n = _; rw [hX.sc]; exact h6.2) hn (fun a oe cls d pn hz hv => ⟨fun pins s σ H D I ⟨C, e, q⟩ => ?_⟩) rest
        subst e
        exact (sndB b (P := P) (W := Wf) (A0 := A0) (hX.suite hz hv (some (a, C, d)) (.inr rfl)) hR.suite takes_blk h4).run pins s σ H D I q
      · cases h6
    · cases h
end
end
end GF

set_option Elab.async false
set_option linter.all false
set_option maxRecDepth 100000
set_option autoImplicit false
set_option maxHeartbeats 1000000
namespace GF
open PySem PySem.Spec PyProof.Rows L2

/-- what is known behind the top -/
structure BaseOk (ti : Ti) (G : Ge) (Pg : Program) (w : World) (K : PySem.W.Frag) (mg : Str → Option Value) : Prop where
  hK : G.K = K
  tb : G.tb = ti.tb
  free : ∀ x, x ∈ ti.free → mg x = none
  gcd : ti.gcd = true → mg "gcd" = some (.builtin "math.gcd")
  consts : ∀ (i : Nat) (x : Str), ti.cnames[i]? = some x → ∃ (d : D) (v : V) (u : Value), ti.tb.consts[i]? = some d ∧ mg x = some u ∧ RelV v u ∧ ∀ F, Rep G F d v
  cls : ClsOk G
  mp : mpB ti = true
  clsn : ∀ (i : Nat) (x : Str), ti.clsn[i]? = some x → mg x = some (.ref (G.cad i))
  rai : ∀ (n : Nat) (i : ClsI), ti.rais.contains n = true → ti.tb.cls[n]? = some i → (i.flds = [] ∧ ExcN K (G.cad n)) ∨ ∃ f, i.flds = [f] ∧ ExcI K Pg w mg (G.cad n) (Str.ofString f) FldOk
/-- a def of the text -/
structure FnD (G : Ge) (K : PySem.W.Frag) (mg : Str → Option Value) (ti : Ti) (fx : Fx) (fi : FnI) : Prop where
  ex : ∃ (f : Ad) (name qual : Str) (params : Arguments) (body : List Stmt) (scope : Scope) (dV kV doc pm cdv ct oc : Value) (an od : Option Ad) (osl : Array (Option Value)) (N : List Str),
    K.lookup f = some ⟨oc, od, .func (PySem.W.fnOf name qual params body scope dV kV doc pm an cdv ct), osl⟩ ∧ PySem.W.codeIn K cdv qual = true ∧ PySem.W.keepIn K (.ref f) = true ∧ (∀ x, fx.gname = some x → mg x = some (.ref f)) ∧
    Binds K (PySem.W.fnOf name qual params body scope dV kV doc pm an cdv ct) fx.ps [] ∧ FnScope N fx.ps scope ∧ fi.slots = N.length ∧ okB ti ⟨N, scope, true⟩ fi.body body = true ∧ (fx.quiet = true → okB ti ⟨N, scope, false⟩ fi.body body = true) ∧
    (∀ (p : Nat) (q : Pat), p ∈ fx.pats → ti.tb.pats[p]? = some q → KB G K (PySem.W.fnOf name qual params body scope dV kV doc pm an cdv ct) fx.ps q) ∧
    (∀ (c : Nat) (m : String), (c, m) ∈ fx.own → Meth K (G.cad c) (Str.ofString m) f) ∧ ∀ (c : Nat) (m : String), (c, m) ∈ fx.stat → SMeth K (G.cad c) (Str.ofString m) f

section
variable {ti : Ti} {G : Ge} {Pg : Program} {w : World} {K : PySem.W.Frag} {mg : Str → Option Value} {base : Heap}
theorem start_rel {N : List Str} {as : List Sl} {vs : List V} {M : List D} {F : Hp} {A : List Ad} {P H : Hp} {n : Nat} (hn : n = N.length) (rs : RepSs G F A none as vs) (rm : RelM G P M F A H) (hl : vs.length ≤ N.length) :
    RelS G P none ⟨as.map some ++ List.replicate (n - as.length) none, M⟩ F A (start N vs) H := by
  have e := Paired.length rs
  subst hn
  refine ⟨rm, fun i v h => ?_, ?_⟩
  · have h' : (as.map some ++ List.replicate (N.length - as.length) none)[i]? = some (some v) := h
    have hi : i < as.length := by
      by_cases hi : i < as.length
      · exact hi
      · rw [List.getElem?_append_right (by simpa using hi), List.getElem?_replicate] at h'
        split at h' <;> cases h'
    rw [List.getElem?_append_left (by simpa using hi), List.getElem?_map] at h'
    obtain ⟨x, hx, hx2⟩ := Option.map_eq_some_iff.mp h'
    cases hx2
    obtain ⟨u, hu, ru⟩ := RepSs.get rs hx
    refine ⟨u, ?_, ru⟩
    unfold L2.start
    rw [List.getElem?_append_left (by simpa using (List.getElem?_eq_some_iff.mp hu).1), List.getElem?_map, hu]
    rfl
  · show (as.map some ++ List.replicate (N.length - as.length) none).length = (start N vs).length
    unfold L2.start
    simp [e]
/-- a body's end is the def's -/
theorem body_ends {tb : Tb} {Φ : Nat → FM} {fi : FnI} {as : List Sl} {M : List D} {F : Hp} {A : List Ad} {P : Hp} {Q : VK} {E : XK} (hl : A.length = M.length)
    (h : match runF tb Φ fi as M with
      | .ret v M' => ∀ u F' H', Ext F F' → RelM G P M' F' A H' → RvR G P F' A H' v u → Q u H'
      | .exc c fs M' => ∀ C d F' H', Ext F F' → RelM G P M' F' A H' → ExnR G F' c fs C d → E (.ref C) d H'
      | .stuck => False) :
    PstS G P none (fun cls d _ H => E cls d H) A { nx := fun _ H' => Q .non H', rt := Q } F (evB tb Φ A.length fi.body ⟨as.map some ++ List.replicate (fi.slots - as.length) none, M⟩) := by
  have back : ∀ {s' : S} {σ' : St'} {F' : Hp} {A' : List Ad} {H' : Hp}, A <+: A' → RelS G P none s' F' A' σ' H' → RelM G P (s'.M.take M.length) F' A H' := fun {s' σ' F' A' H'} p r => by
    have := r.mem.trunc M.length
    obtain ⟨t, rfl⟩ := p
    rw [← hl, List.take_left' rfl, hl] at this
    exact this
  unfold runF at h
  rw [hl]
  revert h
  cases evB tb Φ M.length fi.body ⟨as.map some ++ List.replicate (fi.slots - as.length) none, M⟩ with
  | stuck => exact fun h => h
  | exc c fs s' => exact fun h C d σ' F' A' H' e p r x => h C d F' H' e (back p r) x
  | ok f s' =>
    intro h σ' F' A' H' e p r
    cases f with
    | next => exact h .non F' H' e (back p r) .non
    | brk => exact h.elim
    | cont => exact h.elim
    | ret v =>
      intro u hu
      refine h u F' H' e (back p r) ?_
      cases v with
      | d x => exact hu
      | new xs =>
        obtain ⟨a, ws, h1, h2, h3, h4, h5, h6⟩ := hu
        exact ⟨a, ws, h1, h2, h3, h4, fun z => h5 (p.subset z), h6⟩
theorem sp_len {φ : FM} {n : Nat} {vs : List V} {H : Hp} {Q : VK} {E : XK} (h : spOf G φ n vs H Q E) : vs.length = n := h.1
theorem fnC_zero {fx : Fx} {fi : FnI} (hT : G.tb = ti.tb) (D : FnD G K mg ti fx fi) (f : Nat) (fs : List FnI) : FnC G Pg w K mg base 0 (Phi G.tb fs 0 f) fx := by
  obtain ⟨fa, name, qual, params, body, scope, dV, kV, doc, pm, cdv, ct, oc, an, od, osl, N, h1, h2, h3, h4, h5, h6, h7, h8, h9, h10, h11, h12⟩ := D.ex
  have no : ∀ vs H Q E, spOf G (Phi G.tb fs 0 f) fx.ps.length vs H Q E → False := fun vs H Q E ⟨_, _, _, _, _, _, _, _, h⟩ => h
  exact ⟨fa, _, h3, h4, h5, ⟨fun vs H Q E h => h.1, fun A outer s H args us vs Q E _ _ _ _ h => (no _ _ _ _ h).elim⟩, fun _ => ⟨fun vs H Q E h => h.1, fun A outer s H args us vs Q E _ _ _ _ h => (no _ _ _ _ h).elim⟩, fun p q hp hq => h10 p q hp (hT ▸ hq), h11, h12⟩
theorem xok_of {N ps : List Str} {k : Nat} {Φ : Nat → FM} {qual : Str} {scope : Scope} {fa : Ad} {cdv : Value} {A : Around} {outer : List Env} {s : Shared} {H : Hp} {E : XK} (B : BaseOk ti G Pg w K mg) (S : FnScope N ps scope)
    (ih : ∀ f fx, ti.fns[f]? = some fx → FnC G Pg w K mg base k (Φ f) fx) (hr : Room (2 * k + 1) (A.deeper (envOfC qual scope s.heap.objs.size fa cdv))) :
    SOk ti G Φ k none ⟨N, scope, true⟩ (cxOf (L2.CX Pg w) Pg w K mg base N qual scope fa cdv A outer s H E) where
  toXOk := { K := B.hK, tb := B.tb, N := rfl, nd := S.nd, sc := rfl, hu := hr.units, calm := fun _ => rfl, room := fun _ => hr, roomH := L2H.roomH_of hr, free := B.free, gcd := B.gcd, consts := B.consts, fns := ih, cls := B.cls, clsn := B.clsn, mp := B.mp, eAc := fun _ => rfl, exn := fun a C d z => (by cases z) }
  fn := fun _ => rfl
  hs := rfl
  hf := rfl
  po := passes_of (K := fun e s'' => L2.CX Pg w outer H s E e s'') rfl
theorem xokQ_of {N ps : List Str} {k : Nat} {Φ : Nat → FM} {qual : Str} {scope : Scope} {fa : Ad} {cdv : Value} {A : Around} {outer : List Env} {s : Shared} {H : Hp} {E : XK} (B : BaseOk ti G Pg w K mg) (S : FnScope N ps scope)
    (ih : ∀ f fx, ti.fns[f]? = some fx → FnC G Pg w K mg base k (Φ f) fx) (hr : L2H.RoomH (2 * k + 1) (A.deeper (envOfC qual scope s.heap.objs.size fa cdv))) :
    SOk ti G Φ k none ⟨N, scope, false⟩ (cxQ Pg w K mg base N qual scope fa cdv A outer s H E) where
  toXOk := { K := B.hK, tb := B.tb, N := rfl, nd := S.nd, sc := rfl, hu := by have := hr.un; show (A.deeper (envOfC qual scope s.heap.objs.size fa cdv)).units + 64 < cLine; omega, calm := fun z => (by cases z), room := fun z => (by cases z), roomH := hr, free := B.free, gcd := B.gcd, consts := B.consts, fns := ih, cls := B.cls, clsn := B.clsn, mp := B.mp, eAc := fun z => (by cases z), exn := fun a C d z => (by cases z) }
  fn := fun _ => rfl
  hs := rfl
  hf := rfl
  po := passes_of (K := fun e s'' => L2.CX Pg w outer H s E e s'') rfl
theorem fnC_succ {fs : List FnI} {k : Nat} (B : BaseOk ti G Pg w K mg) (ih : ∀ f fx, ti.fns[f]? = some fx → FnC G Pg w K mg base k (Phi G.tb fs k f) fx) {f : Nat} {fx : Fx} {fi : FnI} (hf : fs[f]? = some fi) (D : FnD G K mg ti fx fi) :
    FnC G Pg w K mg base (k + 1) (Phi G.tb fs (k + 1) f) fx := by
  obtain ⟨fa, name, qual, params, body, scope, dV, kV, doc, pm, cdv, ct, oc, an, od, osl, N, h1, h2, h3, h4, h5, h6, h7, h8, h9, h10, h11, h12⟩ := D.ex
  have eφ : Phi G.tb fs (k + 1) f = runF G.tb (Phi G.tb fs k) fi := by
    rw [Phi, hf]
  have hpl : fx.ps.length ≤ N.length := by have := congrArg List.length h6.pre; rw [List.length_take] at this; omega
  rw [eφ]
  refine ⟨fa, _, h3, h4, h5, fn_of (k := 2 * k + 1) h1 h2 h6 (fun vs H Q E h => h.1) fun A outer s H vs Q E hr hsp => ?_, fun hq => fn_ofQ (k := 2 * k + 1) h1 h2 h6 (fun vs H Q E h => h.1) fun A outer s H vs Q E hr hsp => ?_, fun p q hp hq => h10 p q hp (B.tb ▸ hq), h11, h12⟩
  · obtain ⟨hl, as, M, F, Ac, P, rs, rm, hm⟩ := hsp
    exact ⟨TSt G P none (fun cls d _ H => E cls d H) Ac (evB G.tb (Phi G.tb fs k) Ac.length fi.body), sndB fi.body (xok_of B h6 ih hr) B.rai (takes_of (E₁ := fun e' s'' => L2.CX Pg w outer H s E e' s'') rfl rfl rfl rfl) h8,
      _, F, Ac, List.prefix_refl _, start_rel h7 rs rm (by omega), body_ends rm.len hm⟩
  · obtain ⟨hl, as, M, F, Ac, P, rs, rm, hm⟩ := hsp
    exact ⟨TSt G P none (fun cls d _ H => E cls d H) Ac (evB G.tb (Phi G.tb fs k) Ac.length fi.body), sndB fi.body (xokQ_of B h6 ih hr) B.rai (takes_of (E₁ := fun e' s'' => L2.CX Pg w outer H s E e' s'') rfl rfl rfl rfl) (h9 hq),
      _, F, Ac, List.prefix_refl _, start_rel h7 rs rm (by omega), body_ends rm.len hm⟩
/-- every def, at every level -/
theorem fnC_all {fs : List FnI} (B : BaseOk ti G Pg w K mg) (hl : ∀ (f : Nat) (fx : Fx), ti.fns[f]? = some fx → ∃ fi, fs[f]? = some fi ∧ FnD G K mg ti fx fi) : ∀ (k f : Nat) (fx : Fx), ti.fns[f]? = some fx → FnC G Pg w K mg base k (Phi G.tb fs k f) fx
  | 0, f, fx, h => by
    obtain ⟨fi, _, D⟩ := hl f fx h
    exact fnC_zero B.tb D f fs
  | k + 1, f, fx, h => by
    obtain ⟨fi, h1, D⟩ := hl f fx h
    exact fnC_succ B (fnC_all B hl k) h1 D
end
end GF

set_option Elab.async false
set_option linter.all false
set_option maxRecDepth 100000
set_option autoImplicit false
set_option maxHeartbeats 1000000
namespace GF
open PySem PySem.Spec PyProof.Rows L2

/-! ### what the head looks at -/
/-- an own __init__: the class's number, its name, qualified name, parameters, body, scope -/
structure InitD where
  c : Nat
  name : Str
  qual : Str
  params : Arguments
  body : List Stmt
  scope : Scope
  sf : Str
  par : Str
abbrev FnY : Type := Option (Str × Str × Arguments × FuncBody × Scope × Ad × Ad)
def fnY (K : PySem.W.Frag) (a : Ad) : FnY := match K.lookup a with
  | some ⟨_, _, .func fd, _⟩ => some (fd.name, fd.qualname, fd.params, fd.body, fd.scope, fd.globals, fd.builtins)
  | _ => none
def InitD.val (d : InitD) : FnY := some (d.name, d.qual, d.params, .stmts d.body, d.scope, mainGlobals, builtinsNs)
def cAd (ti : Ti) (K : PySem.W.Frag) (c : Nat) : Ad := He.ga K ((ti.clsn[c]?).getD Str.empty)
def geOf (ti : Ti) (K : PySem.W.Frag) : Ge := ⟨K, cAd ti K, fun c => ((ti.tb.cls[c]?).map fun i => i.flds.map Str.ofString).getD [], ti.tb⟩
def eqOB (a b : Option Bool) : Bool := decide (a = b)
/-- constants -/
def conB (K : PySem.W.Frag) : GF.D → Str → Bool
  | .int i, x => (He.Fa.int x i).ok K
  | .str t, x => (He.Fa.str x (toS t)).ok K && okTb t
  | _, _ => false
def consB (K : PySem.W.Frag) : List GF.D → List Str → Bool
  | [], [] => true
  | d :: ds, x :: xs => conB K d x && consB K ds xs
  | _, _ => false
/-- classes -/
def tags (n : Nat) : List Tag := [.non, .bool, .int, .str, .list, .tuple] ++ (List.range n).map Tag.cls
def bTys : List Ty := [.int, .bool, .str, .list, .tuple]
def excCB (K : PySem.W.Frag) (D : Ad) : Bool := decide (PySem.W.findIn K (.ref D) "__getattribute__" = some (some (.builtin "BaseException.__getattribute__"))) && (decide (PySem.W.findIn K (.ref D) "__getattr__" = some none) && (decide (PySem.W.subIn K (.ref D) (.type "BaseException") = some true) && (PySem.W.hasDictIn K D &&
  (decide (PySem.W.findIn K (.ref D) "__class__" = some (some (.builtin "object.__class__"))) && (decide (PySem.W.specialIn K (.builtin "object.__class__") "__get__" = some (some (.builtin "getset_descriptor.__get__"))) && (decide (PySem.W.takesIn K (.builtin "object.__class__") = some true) && decide (PySem.W.mroIn K D (.type "object") = some true)))))))
theorem ba2 {a b : Bool} (h : (a && b) = true) : a = true ∧ b = true := Bool.and_eq_true_iff.mp h
theorem excCB_ok {K : PySem.W.Frag} {D : Ad} (h : excCB K D = true) : ExcC K D := by
  obtain ⟨h1, h⟩ := ba2 h
  obtain ⟨h2, h⟩ := ba2 h
  obtain ⟨h3, h⟩ := ba2 h
  obtain ⟨h4, h⟩ := ba2 h
  obtain ⟨h5, h⟩ := ba2 h
  obtain ⟨h6, h⟩ := ba2 h
  obtain ⟨h7, h8⟩ := ba2 h
  exact ⟨of_decide_eq_true h1, of_decide_eq_true h2, of_decide_eq_true h3, h4, of_decide_eq_true h5, of_decide_eq_true h6, of_decide_eq_true h7, of_decide_eq_true h8⟩
def insB (K : PySem.W.Frag) (D : Ad) : Bool := PySem.W.plainGet K D Str.empty && (PySem.W.hasDictIn K D && (PySem.W.plainOver K D && (decide (PySem.W.findIn K (.ref D) "__setattr__" = some (some (.builtin "object.__setattr__"))) && (decide (PySem.W.findIn K (.ref D) "__class__" = some (some (.builtin "object.__class__"))) && decide (PySem.W.mroIn K D (.type "object") = some true)))))
def clsB (ti : Ti) (K : PySem.W.Frag) : Bool :=
  let n := ti.tb.cls.length
  let G := geOf ti K
  ((List.range n).all fun k => (tags n).all fun t => eqOB (PySem.W.kitOne K (tagV G t) (.ref (cAd ti K k))) (some (isTag ti.tb t (.cls k)))) &&
  (((List.range n).all fun c => bTys.all fun t => eqOB (PySem.W.kitOne K (.ref (cAd ti K c)) (tyU G t)) (some false)) &&
  ((decide (PySem.W.specialIn K (.builtin "object.__class__") "__get__" = some (some (.builtin "getset_descriptor.__get__"))) && decide (PySem.W.takesIn K (.builtin "object.__class__") = some true)) &&
  (((List.range n).all fun c => if ti.tb.isExc c then excCB K (cAd ti K c) else insB K (cAd ti K c)) &&
  (((List.range n).all fun c => (List.range n).all fun k => !(ti.tb.isExc c && ti.tb.isExc k) || eqOB (PySem.W.exmOne K (.ref (cAd ti K c)) (.ref (cAd ti K k))) (some (ti.tb.isSub c k))) &&
  (((List.range n).all fun c => decide (G.nms c).Nodup) &&
  (((List.range n).all fun c => (G.nms c).all fun f => decide (PySem.W.findIn K (.ref (cAd ti K c)) f = some none)) &&
  (((List.range n).all fun c => ti.tb.isExc c || (PySem.W.makesIn K (cAd ti K c) && (PySem.W.keepIn K (.ref (cAd ti K c)) && PySem.W.selfFirst K (cAd ti K c)))) &&
  ((List.range n).all fun c => (List.range n).all fun d => ti.tb.isExc c || (ti.tb.isExc d || PySem.W.notFirst K (cAd ti K c) (.ref (cAd ti K d)))))))))))
theorem rng {n : Nat} {p : Nat → Bool} (h : (List.range n).all p = true) {c : Nat} (hc : c < n) : p c = true := List.all_eq_true.mp h c (List.mem_range.mpr hc)
theorem clsB_ok {ti : Ti} {K : PySem.W.Frag} (h : clsB ti K = true) : ClsOk (geOf ti K) := by
  unfold clsB at h
  obtain ⟨h1, h⟩ := ba2 h
  obtain ⟨h2, h⟩ := ba2 h
  obtain ⟨h3, h⟩ := ba2 h
  obtain ⟨h4, h⟩ := ba2 h
  obtain ⟨h5, h⟩ := ba2 h
  obtain ⟨h6, h⟩ := ba2 h
  obtain ⟨h7, h⟩ := ba2 h
  obtain ⟨h8, h9⟩ := ba2 h
  refine { kit := ?_, kitT := ?_, clsv := ?_, ins := ?_, exc := ?_, exm := ?_, nms := ?_, nd := ?_, fld := ?_, mkc := ?_, nfst := ?_ }
  · intro t k hk ht
    refine of_decide_eq_true (List.all_eq_true.mp (rng h1 hk) t ?_)
    unfold tags
    cases t with
    | cls c => exact List.mem_append_right _ (List.mem_map.mpr ⟨c, List.mem_range.mpr (ht c rfl), rfl⟩)
    | _ => exact List.mem_append_left _ (by decide)
  · intro c t hc ht
    refine of_decide_eq_true (List.all_eq_true.mp (rng h2 hc) t ?_)
    cases t with
    | cls k => exact absurd rfl (ht k)
    | _ => decide
  · obtain ⟨k1, k2⟩ := ba2 h3
    exact ⟨of_decide_eq_true k1, of_decide_eq_true k2⟩
  · intro c hc he
    have := rng h4 hc
    have he' : ti.tb.isExc c = false := he
    rw [he', if_neg Bool.false_ne_true] at this
    obtain ⟨a1, this⟩ := ba2 this
    obtain ⟨a2, this⟩ := ba2 this
    obtain ⟨a3, this⟩ := ba2 this
    obtain ⟨a4, this⟩ := ba2 this
    obtain ⟨a5, a6⟩ := ba2 this
    exact ⟨⟨a1, a2, a3, of_decide_eq_true a4⟩, of_decide_eq_true a5, of_decide_eq_true a6⟩
  · intro c hc he
    have := rng h4 hc
    have he' : ti.tb.isExc c = true := he
    rw [he', if_pos rfl] at this
    exact excCB_ok this
  · intro c k hc hk he he2
    have := rng (rng h5 hc) hk
    have e1 : ti.tb.isExc c = true := he
    have e2 : ti.tb.isExc k = true := he2
    rw [e1, e2] at this
    have this : eqOB (PySem.W.exmOne K (.ref (cAd ti K c)) (.ref (cAd ti K k))) (some (ti.tb.isSub c k)) = true := this
    exact of_decide_eq_true this
  · intro c i hi
    show ((ti.tb.cls[c]?).map fun i => i.flds.map Str.ofString).getD [] = _
    have hi' : ti.tb.cls[c]? = some i := hi
    rw [hi']; rfl
  · exact fun c hc => of_decide_eq_true (rng h6 hc)
  · intro c n hc hn
    have := rng h7 hc
    exact of_decide_eq_true (List.all_eq_true.mp this n hn)
  · intro c hc he
    have := rng h8 hc
    have e1 : ti.tb.isExc c = false := he
    rw [e1, Bool.false_or] at this
    obtain ⟨a1, a2⟩ := ba2 this
    obtain ⟨a2, a3⟩ := ba2 a2
    exact ⟨a1, a2, a3⟩
  · intro c d hc hd he hf
    have := rng (rng h9 hc) hd
    have e1 : ti.tb.isExc c = false := he
    have e2 : ti.tb.isExc d = false := hf
    rw [e1, e2, Bool.false_or, Bool.false_or] at this
    exact this
def excNB (K : PySem.W.Frag) (C : Ad) : Bool := PySem.W.keepIn K (.ref C) && (decide (PySem.W.subIn K (.ref C) (.type "BaseException") = some true) && (decide (PySem.W.typeIn K (.ref C) = some (.type "type")) && (decide (PySem.W.findIn K (.ref C) "__init__" = some (some (.builtin "ValueError.__init__"))) && PySem.W.excInitIn K C [.type "ValueError", .type "Exception", .type "BaseException", .type "object"] "ValueError.__new__")))
theorem excNB_ok {K : PySem.W.Frag} {C : Ad} (h : excNB K C = true) : ExcN K C := by
  obtain ⟨h1, h⟩ := ba2 h
  obtain ⟨h2, h⟩ := ba2 h
  obtain ⟨h3, h⟩ := ba2 h
  obtain ⟨h4, h5⟩ := ba2 h
  exact ⟨h1, of_decide_eq_true h2, of_decide_eq_true h3, of_decide_eq_true h4, h5⟩
/-- an own __init__ -/
def oexB (K : PySem.W.Frag) (C : Ad) : Bool := (match K.lookup C with
  | some ⟨.type "type", _, .cls cd, sl⟩ => (match cd.mro, sl.toList with
    | .ref C' :: bm, [_, _, _, _, some (.builtin n), _] => C' == C && (n == "ValueError.__new__" && (!cd.hasDel && (cd.hasDict && HandSPX.refsVE bm)))
    | _, _ => false)
  | _ => false) && (decide (PySem.W.findIn K (.ref C) "__setattr__" = some (some (.builtin "object.__setattr__"))) && (decide (PySem.W.subIn K (.ref C) (.type "BaseException") = some true) && (decide (PySem.W.typeIn K (.ref C) = some (.type "type")) && PySem.W.keepIn K (.ref C))))
theorem oexB_ok {K : PySem.W.Frag} {C : Ad} (h : oexB K C = true) : OexC K C := by
  obtain ⟨h1, h⟩ := ba2 h
  obtain ⟨h2, h⟩ := ba2 h
  obtain ⟨h3, h⟩ := ba2 h
  obtain ⟨h4, h5⟩ := ba2 h
  refine ⟨?_, of_decide_eq_true h2, of_decide_eq_true h3, of_decide_eq_true h4, h5⟩
  split at h1
  · rename_i dd cd sl ho
    split at h1
    · rename_i C' bm k0 k1 k2 k3 n k5 hm hs
      obtain ⟨a1, h1⟩ := ba2 h1
      obtain ⟨a2, h1⟩ := ba2 h1
      obtain ⟨a3, h1⟩ := ba2 h1
      obtain ⟨a4, a5⟩ := ba2 h1
      cases eq_of_beq a1
      cases eq_of_beq a2
      obtain ⟨nm, bs, mro, ns, qn, hd, sn, sub, ab, col, del⟩ := cd
      have a3' : del = false := by simpa using a3
      dsimp only at hm a4
      subst hm a3' a4
      have hsl : sl = #[k0, k1, k2, k3, some (.builtin "ValueError.__new__"), k5] := by
        obtain ⟨l⟩ := sl
        simp only at hs
        rw [hs]
      subst hsl
      exact ⟨nm, qn, ns, bs, bm, sn, sub, ab, col, dd, k0, k1, k2, k3, k5, ho, a5⟩
    · cases h1
  · cases h1
def shapeB (f : Str) (d : InitD) : Bool := match d.body with
  | [.Expr (.Call (.Attribute (.Call (.Name s _) [] [] _) i p2) [.JoinedStr msg _] [] p3) _, .Assign [.Attribute (.Name sf _) g _] (.Name par _) _] =>
    decide (s = "super") && (decide (i = "__init__") && (decide (g = f) && (decide (sf = d.sf) && (decide (par = d.par) && ((p2.endLine == p3.line) && msgB d.par msg)))))
  | _ => false
def scopeB (d : InitD) : Bool := decide (d.scope.names.lookup ("super" : Str) = some .globalImplicit) && (decide (d.scope.names.lookup ("__class__" : Str) = some .free) && (decide (d.scope.names.lookup d.sf = some .local) && (decide (d.scope.names.lookup d.par = some .local) && ((match d.scope.kind with | .function => true | _ => false) &&
  ((d.scope.names.all fun x => decide (x.2 ≠ .cell)) && (!d.scope.isCoroutine && (!d.scope.isGenerator && (!(d.sf == ("__debug__" : Str)) && (!(d.par == ("__debug__" : Str)) && (decide (d.sf ≠ d.par) && (match (d.params.posonlyargs ++ d.params.args).head? with | some ar => decide (ar.arg = d.sf) | none => false)))))))))))
def initB (ti : Ti) (prog : Program) (K : PySem.W.Frag) (f : Str) (d : InitD) : Bool :=
  let C := cAd ti K d.c
  let fI := He.ma K C "__init__"
  oexB K C && (decide (PySem.W.findIn K (.ref C) f = some none) && (decide (PySem.W.subIn K (.ref C) (.type "ValueError") = some true) && (decide (PySem.W.ks_superIn K C C "__init__" = some (some (.builtin "ValueError.__init__"))) && (decide (PySem.W.nsIn K cStatics "thirdparty.any" = some none) && ((He.Fa.free "super").ok K && (!(prog.main.scope.names.lookup ("super" : Str)).isSome &&
  (decide (PySem.W.findIn K (.ref C) "__init__" = some (some (.ref fI))) && (decide (PySem.W.typeIn K (.ref fI) = some (.type "function")) && (shapeB f d && (scopeB d && (match K.lookup fI with
    | some ⟨_, _, .func fd, _⟩ => (match fd.closure, fd.code with
      | [(n, cc)], .ref cda => (match fd.defaults with | .none => true | _ => false) && (decide (n = "__class__") && (PySem.W.codeIn K (.ref cda) d.qual && ((match K.lookup cda with
        | some ⟨_, _, .fields vs, _⟩ => (match (vs[2]? : Option Value) with
          | some (Value.str file _) => (prog.main.file : Str) == file
          | _ => false)
        | _ => false) && (match K.lookup cc with
        | some ⟨_, _, .cell (some (.ref C')), _⟩ => C' == C
        | _ => false))))
      | _, _ => false)
    | _ => false)))))))))))
def BindsI (d : InitD) : Prop := ∀ (kV doc pm ct : Value) (an : Option Ad) (cda cc : Ad) (a b : Value), bindArgs (PySem.W.ksFn d.name d.qual d.params d.body d.scope .none kV doc pm an (.ref cda) ct cc) ⟨[a, b], []⟩ = pure [(d.sf, a), (d.par, b)]
theorem initB_ok {ti : Ti} {prog : Program} {w : World} {K : PySem.W.Frag} {f : Str} {d : InitD} {h : Heap} {mg : Str → Option Value} (X : K.In h) (Gn : h.Ns mainGlobals mg) (hy : fnY K (He.ma K (cAd ti K d.c) "__init__") = d.val) (hb : BindsI d) (hB : initB ti prog K f d = true) : ExcI K prog w mg (cAd ti K d.c) f FldOk := by
  unfold initB at hB
  simp only at hB
  obtain ⟨h1, hB⟩ := ba2 hB
  obtain ⟨h2, hB⟩ := ba2 hB
  obtain ⟨h3, hB⟩ := ba2 hB
  obtain ⟨h4, hB⟩ := ba2 hB
  obtain ⟨h5, hB⟩ := ba2 hB
  obtain ⟨h6, hB⟩ := ba2 hB
  obtain ⟨h7, hB⟩ := ba2 hB
  obtain ⟨h8, hB⟩ := ba2 hB
  obtain ⟨h9, hB⟩ := ba2 hB
  obtain ⟨h10, hB⟩ := ba2 hB
  obtain ⟨h11, hB⟩ := ba2 hB
  refine ⟨oexB_ok h1, of_decide_eq_true h2, of_decide_eq_true h3, of_decide_eq_true h4, of_decide_eq_true h5, He.free_ok X Gn h6, by simpa using h7, ?_⟩
  generalize He.ma K (cAd ti K d.c) "__init__" = fI at hy h8 h9 hB
  unfold fnY at hy
  split at hB
  case h_2 => cases hB
  rename_i oc od fd osl hl
  rw [hl] at hy
  obtain ⟨n1, n2, n3, n4, n5, n6, n7, n8, n9, n10, n11, n12, n13, n14, n15⟩ := fd
  have e2 : (some (n1, n2, n3, n4, n5, n6, n15) : FnY) = some (d.name, d.qual, d.params, .stmts d.body, d.scope, mainGlobals, builtinsNs) := hy
  simp only [Option.some.injEq, Prod.mk.injEq] at e2
  obtain ⟨e1, e2, e3, e4, e5, e6, e7⟩ := e2
  subst e1 e2 e3 e4 e5 e6 e7
  simp only at hB
  split at hB
  case h_2 => cases hB
  rename_i n cc cda
  obtain ⟨a0, hB⟩ := ba2 hB
  obtain ⟨a1, hB⟩ := ba2 hB
  obtain ⟨a2, hB⟩ := ba2 hB
  obtain ⟨a3, a4⟩ := ba2 hB
  cases of_decide_eq_true a1
  split at a0
  case h_2 => cases a0
  split at a3
  case h_2 => cases a3
  rename_i ccl cdd vs ccs hlc
  split at a3
  case h_2 => cases a3
  rename_i file tf hvs
  split at a4
  case h_2 => cases a4
  rename_i cl cld C' csl hlcc
  cases eq_of_beq a4
  -- the shape
  unfold shapeB at h10
  split at h10
  case h_2 => cases h10
  rename_i s q0 q1 i q2 msg q9 q3 q4 sf q5 g q6 par q7 q8 hbody
  obtain ⟨b1, h10⟩ := ba2 h10
  obtain ⟨b2, h10⟩ := ba2 h10
  obtain ⟨b3, h10⟩ := ba2 h10
  obtain ⟨b4, h10⟩ := ba2 h10
  obtain ⟨b5, h10⟩ := ba2 h10
  obtain ⟨b6, b7⟩ := ba2 h10
  have b1 := of_decide_eq_true b1
  have b2 := of_decide_eq_true b2
  have b3 := of_decide_eq_true b3
  have b4 := of_decide_eq_true b4
  have b5 := of_decide_eq_true b5
  subst b1 b2 b3 b4 b5
  let ps : Nat → Pos := fun n => match n with | 0 => q0 | 1 => q1 | 2 => q2 | 3 => q3 | 4 => q4 | 5 => q5 | 6 => q6 | 7 => q7 | 8 => q8 | _ => q9
  have hbody' : d.body = initBody msg d.sf g d.par ps := hbody
  unfold scopeB at h11
  obtain ⟨c1, h11⟩ := ba2 h11
  obtain ⟨c2, h11⟩ := ba2 h11
  obtain ⟨c3, h11⟩ := ba2 h11
  obtain ⟨c4, h11⟩ := ba2 h11
  obtain ⟨c5, h11⟩ := ba2 h11
  obtain ⟨c6, h11⟩ := ba2 h11
  obtain ⟨c7, h11⟩ := ba2 h11
  obtain ⟨c8, h11⟩ := ba2 h11
  obtain ⟨c9, h11⟩ := ba2 h11
  obtain ⟨c10, h11⟩ := ba2 h11
  obtain ⟨c11, c12⟩ := ba2 h11
  have hk : d.scope.kind = .function := by
    revert c5
    cases d.scope.kind <;> first | (intro _; rfl) | (intro c5; cases c5)
  split at c12
  case h_2 => cases c12
  rename_i ar har
  have hbind := hb n9 n10 n11 n14 n12 cda cc
  rw [hbody'] at hl hbind
  exact ⟨fI, cc, cda, d.name, d.qual, d.params, msg, d.sf, d.par, ps, d.scope, .none, n9, n10, n11, n14, oc, ccl, cl, n12, od, cdd, cld, osl, ccs, csl, vs, file, tf, ar,
    of_decide_eq_true h8, of_decide_eq_true h9, hl, a2, hlc, hvs, a3, hlcc, hbind, har, of_decide_eq_true c12, of_decide_eq_true c11,
    of_decide_eq_true c1, of_decide_eq_true c2, of_decide_eq_true c3, of_decide_eq_true c4, hk, (fun x hx => of_decide_eq_true (List.all_eq_true.mp c6 x hx)), by simpa using c7, by simpa using c8, by simpa using c9, by simpa using c10, b6,
    fun L => msgOk_of hk (of_decide_eq_true c4) (by simpa using c10) b7⟩
end GF

set_option Elab.async false
set_option linter.all false
set_option maxRecDepth 100000
set_option autoImplicit false
set_option maxHeartbeats 1000000
namespace GF
open PySem PySem.Spec PyProof.Rows L2

/-- the head's data: tables, bodies, where the defs stand, the own __init__s -/
structure Hd where
  ti : Ti
  fs : List FnI
  fns : List He.DefD
  inits : List InitD
  prog : Program
/-- the function behind a staticmethod -/
def stA (K : PySem.W.Frag) (a : Ad) : Ad := match PySem.W.recIn K a "staticmethod" with
  | some (.ref f :: _) => f
  | _ => a
/-- where a def stands: a global, a class's method, static or not -/
def fA (K : PySem.W.Frag) (p : Str × Option Str) : Ad := match p.2 with
  | none => He.ga K p.1
  | some m => stA K (He.ma K (He.ga K p.1) m)
def fnV (K : PySem.W.Frag) (a : Ad) : He.FnW := match K.lookup a with
  | some ⟨_, _, .func z, _⟩ => some (z.name, z.qualname, z.params, z.body, z.scope, z.globals, z.closure, z.builtins)
  | _ => none
def okD (K : PySem.W.Frag) (a : Ad) (d : He.DefD) : Bool := PySem.W.keepIn K (.ref a) && (match K.lookup a with
  | some ⟨_, _, .func z, _⟩ => PySem.W.codeIn K z.code d.qual && (He.dflB K z.defaults (d.dvs K) && He.kwdB K z.kwdefaults (d.kws K))
  | _ => false)
theorem funD_at {K : PySem.W.Frag} {a : Ad} {d : He.DefD} (e : fnV K a = d.val) (h : okD K a d = true) : ∃ fd, FunD K d.name d.qual d.params d.body d.scope (d.dvs K) (d.kws K) a fd := by
  obtain ⟨kp, h2⟩ := ba2 h
  unfold fnV at e
  split at h2
  case h_2 => cases h2
  rename_i oc od z osl hl
  rw [hl] at e
  obtain ⟨n1, n2, n3, n4, n5, n6, n7, n8, n9, n10, n11, n12, n13, n14, n15⟩ := z
  have e2 : (some (n1, n2, n3, n4, n5, n6, n7, n15) : He.FnW) = some (d.name, d.qual, d.params, .stmts d.body, d.scope, mainGlobals, [], builtinsNs) := e
  simp only [Option.some.injEq, Prod.mk.injEq] at e2
  obtain ⟨e1, e2, e3, e4, e5, e6, e7, e8⟩ := e2
  subst e1 e2 e3 e4 e5 e6 e7 e8
  obtain ⟨k1, k2⟩ := ba2 h2
  obtain ⟨k3, k4⟩ := ba2 k2
  exact ⟨_, ⟨oc, od, n8, n9, n10, n11, n12, n13, n14, osl, rfl, hl, k1, He.dflB_ok k3, He.kwdB_ok k4⟩, kp⟩
def statB (K : PySem.W.Frag) (C : Ad) (m : Str) (f : Ad) : Bool := match PySem.W.typeIn K (.ref C) with
  | some mc => PySem.W.readsIn K C mc && (decide (PySem.W.specialIn K (.ref C) "__getattribute__" = some (some (.builtin "type.__getattribute__"))) && (match PySem.W.findCls K (.ref C) mc m with
    | some (.get (.builtin g) (.ref p) .none (.ref C')) => decide (g = "staticmethod.__get__") && (decide (C' = C) && (match PySem.W.recIn K p "staticmethod" with
      | some (.ref f' :: _) => decide (f' = f)
      | _ => false))
    | _ => false))
  | none => false
theorem statB_ok {K : PySem.W.Frag} {C : Ad} {m : Str} {f : Ad} (h : statB K C m f = true) : SMeth K C m f := by
  unfold statB at h
  split at h
  case h_2 => cases h
  rename_i mc hmc
  obtain ⟨h1, h⟩ := ba2 h
  obtain ⟨h2, h⟩ := ba2 h
  split at h
  case h_2 => cases h
  rename_i g p C' hf
  obtain ⟨h3, h⟩ := ba2 h
  obtain ⟨h4, h⟩ := ba2 h
  split at h
  case h_2 => cases h
  rename_i f' rest hr
  have h3 := of_decide_eq_true h3
  have h4 := of_decide_eq_true h4
  have h5 := of_decide_eq_true h
  subst h3 h4 h5
  exact ⟨mc, p, rest, hmc, h1, of_decide_eq_true h2, hf, hr⟩
def gloB (K : PySem.W.Frag) (x : Str) : Bool := (He.Fa.glo x).ok K
def fng1 (ti : Ti) (K : PySem.W.Frag) (fx : Fx) (f : Ad) : Bool := (match fx.gname with
    | none => true
    | some x => gloB K x && decide (f = He.ga K x)) &&
  ((fx.own.all fun z => decide (PySem.W.findIn K (.ref (cAd ti K z.1)) (Str.ofString z.2) = some (some (.ref f))) && PySem.W.isFn K (.ref f)) && fx.stat.all fun z => statB K (cAd ti K z.1) (Str.ofString z.2) f)
def fngB (ti : Ti) (K : PySem.W.Frag) : List Fx → List He.DefD → Bool
  | [], [] => true
  | fx :: r, d :: ds => fng1 ti K fx (fA K d.at_) && fngB ti K r ds
  | _, _ => false
def raiB (hd : Hd) (K : PySem.W.Frag) : Bool := (List.range hd.ti.tb.cls.length).all fun c => !hd.ti.rais.contains c || (match hd.ti.tb.cls[c]? with
  | none => true
  | some i => (match i.flds with
    | [] => excNB K (cAd hd.ti K c)
    | [f] => hd.inits.any fun d => decide (d.c = c) && initB hd.ti hd.prog K (Str.ofString f) d
    | _ => false))
def bsB (hd : Hd) (K : PySem.W.Frag) : Bool := (hd.ti.free.all fun x => (He.Fa.free x).ok K) && ((!hd.ti.gcd || He.eqO (PySem.W.nsIn K mainGlobals "gcd") (some (some (.builtin "math.gcd")))) && (consB K hd.ti.tb.consts hd.ti.cnames && (clsB hd.ti K &&
  ((hd.ti.clsn.all fun x => gloB K x) && (raiB hd K && (fngB hd.ti K hd.ti.fns hd.fns && hd.fns.all fun d => okD K (fA K d.at_) d))))))
abbrev AlH : Type := Bool × List He.FnW × List FnY
def obsH (hd : Hd) (K : PySem.W.Frag) : AlH := (bsB hd K, hd.fns.map (fun d => fnV K (fA K d.at_)), hd.inits.map fun d => fnY K (He.ma K (cAd hd.ti K d.c) "__init__"))
def valH (hd : Hd) : AlH := (true, hd.fns.map He.DefD.val, hd.inits.map InitD.val)
def SaysH (hd : Hd) (K : PySem.W.Frag) : Prop := obsH hd K = valH hd
def obsHG (n : Nat) (hd : Hd) (g : Addr → Option Obj) : AlH := obsH hd (He.frG g (cStatics :: He.asD g n))
def hookH (n : Nat) (hd : Hd) : PySem.W.Hook where
  α := AlH
  obs := fun s => obsHG n hd s.heap.get?
  val := fun _ => valH hd
  says := fun _ h => ∃ K : PySem.W.Frag, K.In h ∧ SaysH hd K
  of := fun _ _ e => ⟨_, He.frG_in, e⟩
  keeps := fun _ _ _ ⟨K, hK, c⟩ k => ⟨K, PySem.W.Frag.In.keeps hK k, c⟩
theorem obsHG_eq {n : Nat} {hd : Hd} {g : Addr → Option Obj} {s : Shared} (h : ∀ a, g a = s.heap.get? a) : obsHG n hd g = (hookH n hd).obs s := by
  have e : g = s.heap.get? := funext h
  rw [e] <;> rfl

section
variable {hd : Hd} {K : PySem.W.Frag} {h : Heap} {mg : Str → Option Value} {w : World}
theorem consB_ok (X : K.In h) (Gn : h.Ns mainGlobals mg) {G : Ge} : ∀ {ds : List D} {xs : List Str}, consB K ds xs = true → ∀ (i : Nat) (x : Str), xs[i]? = some x → ∃ (d : D) (v : V) (u : Value), ds[i]? = some d ∧ mg x = some u ∧ RelV v u ∧ ∀ F, Rep G F d v
  | [], [], _, i, x, e => by simp at e
  | d :: ds, y :: xs, c, i, x, e => by
    obtain ⟨c1, c2⟩ := ba2 (show (conB K d y && consB K ds xs) = true from c)
    cases i with
    | succ i => exact consB_ok X Gn c2 i x (by simpa using e)
    | zero =>
      have e : y = x := by simpa using e
      subst e
      cases d with
      | int z =>
        obtain ⟨t, ht⟩ := He.int_ok X Gn (show (He.Fa.int y z).ok K = true from c1)
        exact ⟨_, .int z, _, rfl, ht, ⟨t, rfl⟩, fun F => .int z⟩
      | str z =>
        obtain ⟨k1, k2⟩ := ba2 (show ((He.Fa.str y (toS z)).ok K && okTb z) = true from c1)
        obtain ⟨t, ht⟩ := He.str_ok X Gn k1
        exact ⟨_, .str (toS z), _, rfl, ht, ⟨t, rfl⟩, fun F => .str z (okTb_of k2)⟩
      | _ => cases c1
  | [], _ :: _, c, _, _, _ => by cases c
  | _ :: _, [], c, _, _, _ => by cases c
theorem SaysH.init (c : SaysH hd K) {d : InitD} (hm : d ∈ hd.inits) : fnY K (He.ma K (cAd hd.ti K d.c) "__init__") = d.val := by
  have e : hd.inits.map (fun d => fnY K (He.ma K (cAd hd.ti K d.c) "__init__")) = hd.inits.map InitD.val := congrArg (fun z : AlH => z.2.2) c
  exact List.map_inj_left.mp e d hm
theorem SaysH.fn (c : SaysH hd K) {d : He.DefD} (hm : d ∈ hd.fns) : fnV K (fA K d.at_) = d.val := by
  have e : hd.fns.map (fun d => fnV K (fA K d.at_)) = hd.fns.map He.DefD.val := congrArg (fun z : AlH => z.2.1) c
  exact List.map_inj_left.mp e d hm
theorem SaysH.b (c : SaysH hd K) : bsB hd K = true := congrArg (fun z : AlH => z.1) c
theorem SaysH.bb (c : SaysH hd K) : ((hd.ti.free.all fun x => (He.Fa.free x).ok K) && ((!hd.ti.gcd || He.eqO (PySem.W.nsIn K mainGlobals "gcd") (some (some (.builtin "math.gcd")))) && (consB K hd.ti.tb.consts hd.ti.cnames && (clsB hd.ti K &&
  ((hd.ti.clsn.all fun x => gloB K x) && (raiB hd K && (fngB hd.ti K hd.ti.fns hd.fns && hd.fns.all fun d => okD K (fA K d.at_) d))))))) = true := c.b
theorem base_ok (X : K.In h) (Gn : h.Ns mainGlobals mg) (c : SaysH hd K) (hb : ∀ d ∈ hd.inits, BindsI d) (hmp : mpB hd.ti = true) : BaseOk hd.ti (geOf hd.ti K) hd.prog w K mg := by
  obtain ⟨c1, b⟩ := ba2 c.bb
  obtain ⟨c2, b⟩ := ba2 b
  obtain ⟨c3, b⟩ := ba2 b
  obtain ⟨c4, b⟩ := ba2 b
  obtain ⟨c5, b⟩ := ba2 b
  obtain ⟨c6, b⟩ := ba2 b
  refine { hK := rfl, tb := rfl, free := fun x hx => He.free_ok X Gn (List.all_eq_true.mp c1 x hx), gcd := fun hg => ?_, consts := fun i x e => consB_ok X Gn c3 i x e, cls := clsB_ok c4, mp := hmp, clsn := fun i x e => ?_, rai := fun n i hn hi => ?_ }
  · rw [hg] at c2
    exact PySem.W.mg_of X Gn (He.eqO_ok (by simpa using c2))
  · have := List.all_eq_true.mp c5 x (List.mem_of_getElem? e)
    have := He.glo_ok X Gn this
    rw [this]
    show _ = some (Value.ref (He.ga K ((hd.ti.clsn[i]?).getD Str.empty)))
    rw [e]
    rfl
  · have hlt : n < hd.ti.tb.cls.length := (List.getElem?_eq_some_iff.mp hi).1
    have := rng c6 hlt
    rw [hn, hi] at this
    have this : (match i.flds with
      | [] => excNB K (cAd hd.ti K n)
      | [f] => hd.inits.any fun d => decide (d.c = n) && initB hd.ti hd.prog K (Str.ofString f) d
      | _ => false) = true := by simpa using this
    cases hfl : i.flds with
    | nil =>
      rw [hfl] at this
      exact .inl ⟨rfl, excNB_ok this⟩
    | cons f r =>
      cases r with
      | cons _ _ =>
        rw [hfl] at this
        cases this
      | nil =>
        rw [hfl] at this
        obtain ⟨d, hd1, hd2⟩ := List.any_eq_true.mp this
        obtain ⟨k1, k2⟩ := ba2 hd2
        have k1 := of_decide_eq_true k1
        subst k1
        exact .inr ⟨f, rfl, initB_ok X Gn (c.init hd1) (hb d hd1) k2⟩
end
def dvD : He.Dv → Option D
  | .non => some .non
  | .bl b => some (.bl b)
  | .int i => some (.int i)
  | _ => none
def dflD : List He.Dv → Option (List D)
  | [] => some []
  | x :: xs => match dvD x, dflD xs with
    | some d, some ds => some (d :: ds)
    | _, _ => none
theorem dflD_ok {K : PySem.W.Frag} {G : Ge} : ∀ {xs : List He.Dv} {ds : List D}, dflD xs = some ds → ∀ F, Reps G F ds (xs.map (He.Dv.v K))
  | [], ds, h, F => by cases h; exact .nil
  | x :: xs, ds, h, F => by
    unfold dflD at h
    split at h
    · rename_i d ds' h1 h2
      cases h
      refine .cons ?_ (dflD_ok h2 F)
      unfold dvD at h1
      split at h1 <;> cases h1
      · exact .non
      · exact .bl _
      · exact .int _
    · cases h
/-- its calls with keywords -/
def PatF (ti : Ti) (fx : Fx) (d : He.DefD) (p : Nat) : Prop := match ti.tb.pats[p]? with
  | some q => (d.dfl = [] ∧ q.dfl = [] ∧ ∀ (kV doc pm : Value) (an : Option Addr) (cdv ct : Value) (us ws : List Value), us.length = q.n → ws.length = q.ks.length →
      bindArgs (PySem.W.fnOf d.name d.qual d.params d.body d.scope .none kV doc pm an cdv ct) ⟨us, (q.ks.map Str.ofString).zip ws⟩ = pure (fx.ps.zip (permute q.perm (us ++ (ws ++ []))))) ∨
    (dflD d.dfl = some q.dfl ∧ d.dfl ≠ [] ∧ ∀ (T : Ad) (kV doc pm : Value) (an : Option Addr) (cdv ct : Value) (us ws its : List Value), us.length = q.n → ws.length = q.ks.length → its.length = d.dfl.length →
      ∃ k, bindArgs (PySem.W.fnOf d.name d.qual d.params d.body d.scope (.ref T) kV doc pm an cdv ct) ⟨us, (q.ks.map Str.ofString).zip ws⟩ = seqItems? (.ref T) >>= k ∧ k (some its.toArray) = pure (fx.ps.zip (permute q.perm (us ++ (ws ++ its)))))
  | none => True
def PatsF (ti : Ti) (fx : Fx) (d : He.DefD) : List Nat → Prop
  | [] => True
  | p :: ps => PatF ti fx d p ∧ PatsF ti fx d ps
theorem patsF_at {ti : Ti} {fx : Fx} {d : He.DefD} : ∀ {ps : List Nat}, PatsF ti fx d ps → ∀ {p : Nat}, p ∈ ps → PatF ti fx d p
  | [], _, _, h => by cases h
  | p0 :: ps, hp, p, h => by
    rcases List.mem_cons.mp h with rfl | h
    · exact hp.1
    · exact patsF_at hp.2 h
/-- a def of the text, before the heap is known -/
structure FnF (ti : Ti) (fx : Fx) (fi : FnI) (d : He.DefD) (N : List Str) : Prop where
  nod : d.kwd = []
  binds : (d.dfl = [] ∧ ∀ (kV doc pm : Value) (an : Option Addr) (cdv ct : Value) (us : List Value), us.length = fx.ps.length → bindArgs (PySem.W.fnOf d.name d.qual d.params d.body d.scope .none kV doc pm an cdv ct) ⟨us, []⟩ = pure (fx.ps.zip us)) ∨
    (d.dfl ≠ [] ∧ ∀ (T : Ad) (kV doc pm : Value) (an : Option Addr) (cdv ct : Value) (us its : List Value), us.length = fx.ps.length → its.length = d.dfl.length →
      ∃ k, bindArgs (PySem.W.fnOf d.name d.qual d.params d.body d.scope (.ref T) kV doc pm an cdv ct) ⟨us, []⟩ = seqItems? (.ref T) >>= k ∧ k (some its.toArray) = pure (fx.ps.zip us))
  scope : FnScope N fx.ps d.scope
  slots : fi.slots = N.length
  ok : okB ti ⟨N, d.scope, true⟩ fi.body d.body = true
  okq : fx.quiet = true → okB ti ⟨N, d.scope, false⟩ fi.body d.body = true
  pats : PatsF ti fx d fx.pats
def AllF (ti : Ti) : List Fx → List FnI → List He.DefD → List (List Str) → Prop
  | [], [], [], [] => True
  | fx :: a, fi :: b, d :: c, N :: e => FnF ti fx fi d N ∧ AllF ti a b c e
  | _, _, _, _ => False
theorem allF_at {ti : Ti} : ∀ {a : List Fx} {b : List FnI} {c : List He.DefD} {e : List (List Str)}, AllF ti a b c e → ∀ {i : Nat} {fx : Fx}, a[i]? = some fx → ∃ fi d N, b[i]? = some fi ∧ c[i]? = some d ∧ FnF ti fx fi d N
  | fx :: a, fi :: b, d :: c, N :: e, h, i, fx', hi => by
    cases i with
    | zero =>
      have : fx = fx' := by simpa using hi
      subst this
      exact ⟨fi, d, N, rfl, rfl, h.1⟩
    | succ i => exact allF_at h.2 (by simpa using hi)
  | [], _, _, _, _, i, fx', hi => by simp at hi
  | _ :: _, [], _, _, h, _, _, _ => h.elim
  | _ :: _, _ :: _, [], _, h, _, _, _ => h.elim
  | _ :: _, _ :: _, _ :: _, [], h, _, _, _ => h.elim
theorem fngB_at {ti : Ti} {K : PySem.W.Frag} : ∀ {a : List Fx} {c : List He.DefD}, fngB ti K a c = true → ∀ {i : Nat} {fx : Fx} {d : He.DefD}, a[i]? = some fx → c[i]? = some d → fng1 ti K fx (fA K d.at_) = true
  | fx :: a, d :: c, h, i, fx', d', hi, hd => by
    obtain ⟨h1, h2⟩ := ba2 (show (fng1 ti K fx (fA K d.at_) && fngB ti K a c) = true from h)
    cases i with
    | zero =>
      have e1 : fx = fx' := by simpa using hi
      have e2 : d = d' := by simpa using hd
      subst e1 e2
      exact h1
    | succ i => exact fngB_at h2 (by simpa using hi) (by simpa using hd)
  | [], [], _, i, _, _, hi, _ => by simp at hi
  | [], _ :: _, h, _, _, _, _, _ => by cases h
  | _ :: _, [], h, _, _, _, _, _ => by cases h
section
variable {hd : Hd} {K : PySem.W.Frag} {h : Heap} {mg : Str → Option Value} {w : World} {Ns : List (List Str)}
theorem SaysH.last (c : SaysH hd K) : (fngB hd.ti K hd.ti.fns hd.fns && hd.fns.all fun d => okD K (fA K d.at_) d) = true := by
  obtain ⟨_, b⟩ := ba2 c.bb
  obtain ⟨_, b⟩ := ba2 b
  obtain ⟨_, b⟩ := ba2 b
  obtain ⟨_, b⟩ := ba2 b
  obtain ⟨_, b⟩ := ba2 b
  obtain ⟨_, b⟩ := ba2 b
  exact b
theorem funD_of (c : SaysH hd K) {d : He.DefD} (hm : d ∈ hd.fns) (h0 : d.kwd = []) : ∃ fd, FunD K d.name d.qual d.params d.body d.scope (d.dvs K) [] (fA K d.at_) fd := by
  obtain ⟨_, b⟩ := ba2 c.last
  have := funD_at (c.fn hm) (List.all_eq_true.mp b d hm)
  have e : d.kws K = [] := by unfold He.DefD.kws; rw [h0]; rfl
  rwa [e] at this
theorem glo_of (X : K.In h) (Gn : h.Ns mainGlobals mg) (c : SaysH hd K) {i : Nat} {fx : Fx} {d : He.DefD} (h1 : hd.ti.fns[i]? = some fx) (h2 : hd.fns[i]? = some d) : ∀ x, fx.gname = some x → mg x = some (.ref (fA K d.at_)) := fun x hx => by
  obtain ⟨b, _⟩ := ba2 c.last
  obtain ⟨k0, _⟩ := ba2 (fngB_at b h1 h2)
  rw [hx] at k0
  obtain ⟨k1, k2⟩ := ba2 k0
  rw [of_decide_eq_true k2]
  exact He.glo_ok X Gn k1
theorem own_of (c : SaysH hd K) {i : Nat} {fx : Fx} {d : He.DefD} (h1 : hd.ti.fns[i]? = some fx) (h2 : hd.fns[i]? = some d) (kp : PySem.W.keepIn K (.ref (fA K d.at_)) = true) : ∀ (n : Nat) (m : String), (n, m) ∈ fx.own → Meth K (cAd hd.ti K n) (Str.ofString m) (fA K d.at_) := fun n m hm => by
  obtain ⟨b, _⟩ := ba2 c.last
  obtain ⟨_, k0⟩ := ba2 (fngB_at b h1 h2)
  obtain ⟨k0, _⟩ := ba2 k0
  obtain ⟨k1, k2⟩ := ba2 (List.all_eq_true.mp k0 (n, m) hm)
  exact ⟨of_decide_eq_true k1, k2, kp⟩
theorem stat_of (c : SaysH hd K) {i : Nat} {fx : Fx} {d : He.DefD} (h1 : hd.ti.fns[i]? = some fx) (h2 : hd.fns[i]? = some d) : ∀ (n : Nat) (m : String), (n, m) ∈ fx.stat → SMeth K (cAd hd.ti K n) (Str.ofString m) (fA K d.at_) := fun n m hm => by
  obtain ⟨b, _⟩ := ba2 c.last
  obtain ⟨_, k0⟩ := ba2 (fngB_at b h1 h2)
  obtain ⟨_, k0⟩ := ba2 k0
  exact statB_ok (List.all_eq_true.mp k0 (n, m) hm)
theorem binds_of {fx : Fx} {fi : FnI} {d : He.DefD} {N : List Str} {f : Ad} {fd : FuncData} (h3 : FnF hd.ti fx fi d N) (F : FunD K d.name d.qual d.params d.body d.scope (d.dvs K) [] f fd) : Binds K fd fx.ps [] := by
  rcases h3.binds with ⟨h0, hb⟩ | ⟨h0, hb⟩
  · have e : d.dvs K = [] := by unfold He.DefD.dvs; rw [h0]; rfl
    rw [e] at F
    exact F.bindsN hb
  · have e : d.dvs K ≠ [] := by
      unfold He.DefD.dvs
      cases hq : d.dfl with
      | nil => exact absurd hq h0
      | cons _ _ => simp
    obtain ⟨ds, hv, hB⟩ := F.binds1 (ps := fx.ps) fx.ps.length (d.dvs K).length e (by omega) fun T kV doc pm an cdv ct us its l1 l2 => by
      obtain ⟨k, e1, e2⟩ := hb T kV doc pm an cdv ct us its l1 (by rw [l2]; unfold He.DefD.dvs; simp)
      refine ⟨k, e1, ?_⟩
      rw [e2, ← l2, List.drop_length, List.append_nil]
    rw [List.drop_length] at hv
    cases hv
    exact hB
theorem pats_of {G : Ge} {fx : Fx} {fi : FnI} {d : He.DefD} {N : List Str} {f : Ad} {fd : FuncData} (h3 : FnF hd.ti fx fi d N) (F : FunD K d.name d.qual d.params d.body d.scope (d.dvs K) [] f fd) (p : Nat) (q : Pat) (hp : p ∈ fx.pats) (hq : hd.ti.tb.pats[p]? = some q) : KB G K fd fx.ps q := by
  have hpf := patsF_at h3.pats hp
  unfold PatF at hpf
  rw [hq] at hpf
  obtain ⟨oc, od, dV, kV, doc, pm, an, cdv, ct, osl, rfl, lk, hcd, hD, hK⟩ := F.ex
  rcases hpf with ⟨e0, e1, e2⟩ | ⟨e1, e0, e2⟩
  · have e : d.dvs K = [] := by unfold He.DefD.dvs; rw [e0]; rfl
    rw [e] at hD
    rcases hD with ⟨_, rfl⟩ | ⟨e, _⟩
    · exact ⟨[], [], .nil, fun F => by rw [e1]; exact .nil, fun s us ws _ l1 l2 => .of_eq (e2 kV doc pm an cdv ct us ws l1 l2)⟩
    · exact absurd rfl e
  · rcases hD with ⟨e, _⟩ | ⟨_, T, o, its, m, rfl, lT, oT, rT⟩
    · unfold He.DefD.dvs at e
      exact absurd (List.map_eq_nil_iff.mp e) e0
    · refine ⟨its, d.dvs K, rT, fun F => dflD_ok e1 F, fun s us ws X l1 l2 => ?_⟩
      have l3 : its.length = d.dfl.length := by rw [← rT.length]; unfold He.DefD.dvs; simp
      obtain ⟨k, e3, e4⟩ := e2 T kV doc pm an cdv ct us ws its l1 l2 l3
      refine BindsTo.of_looks fun M => ?_
      rw [e3]
      exact looks_items X lT oT (.of_pure e4)
theorem fnD_of (X : K.In h) (Gn : h.Ns mainGlobals mg) (c : SaysH hd K) (A : AllF hd.ti hd.ti.fns hd.fs hd.fns Ns) (f : Nat) (fx : Fx) (hf : hd.ti.fns[f]? = some fx) : ∃ fi, hd.fs[f]? = some fi ∧ FnD (geOf hd.ti K) K mg hd.ti fx fi := by
  obtain ⟨fi, d, N, h1, h2, h3⟩ := allF_at A hf
  obtain ⟨fd, F⟩ := funD_of c (List.mem_of_getElem? h2) h3.nod
  have bi := binds_of h3 F
  have pa := fun p q hp hq => pats_of (G := geOf hd.ti K) h3 F p q hp hq
  have ow := own_of c hf h2 F.kp
  have sa := stat_of c hf h2
  obtain ⟨oc, od, dV, kV, doc, pm, an, cdv, ct, osl, rfl, lk, hcd, hD, hK⟩ := F.ex
  exact ⟨fi, h1, ⟨_, _, _, _, _, _, _, _, _, _, _, _, _, _, _, _, N, lk, hcd, F.kp, glo_of X Gn c hf h2, bi, h3.scope, h3.slots, h3.ok, h3.okq, pa, ow, sa⟩⟩
/-- the law's end -/
theorem law_facts (X : K.In h) (Gn : h.Ns mainGlobals mg) (c : SaysH hd K) (hb : ∀ d ∈ hd.inits, BindsI d) (hmp : mpB hd.ti = true) (A : AllF hd.ti hd.ti.fns hd.fs hd.fns Ns) {k i n : Nat} {fx : Fx} {law x : Str} {fa : Addr} (hi : hd.ti.fns[i]? = some fx) (hps : fx.ps = [x]) (hg : fx.gname = some law) (hmg : mg law = some (.ref fa))
    (hdf : ∀ d, hd.fns[i]? = some d → d.dfl = []) (hlaw : ∀ ns : List Int, ns.length ≤ n → ∃ M, Phi hd.ti.tb hd.fs (k + 1) i [.d (.scr ns)] [] = .ret (.d (.bl true)) M) :
    ∃ (fd : FuncData) (sp : Sp), (∀ (s : Shared) (u : Value), BindsTo s fd ⟨[u], []⟩ [(x, u)]) ∧
      (∀ (H : Hp) (a : Addr) (ns : List Int), ns.length ≤ n → Only H → SqL K H a (ns.map V.int) → sp [.ref a] H (fun v _ => v = .bl true) fun _ _ _ => False) ∧
      ∀ base : Heap, FnOk hd.prog w K mg base (L2.CX hd.prog w) (2 * k + 1 + 1) fa fd [x] sp := by
  have B := base_ok (w := w) X Gn c hb hmp
  have hl := fnD_of X Gn c A
  obtain ⟨fi, d, N, h1, h2, h3⟩ := allF_at A hi
  obtain ⟨fd, F⟩ := funD_of c (List.mem_of_getElem? h2) h3.nod
  have e := hmg.symm.trans (glo_of X Gn c hi h2 law hg)
  cases e
  have e0 := hdf d h2
  have bi : ∀ (s : Shared) (us : List Value), us.length = fx.ps.length → BindsTo s fd ⟨us, []⟩ (fx.ps.zip us) := by
    rcases h3.binds with ⟨_, hb⟩ | ⟨h0, _⟩
    · have e : d.dvs K = [] := by unfold He.DefD.dvs; rw [e0]; rfl
      rw [e] at F
      exact F.bindsA hb
    · exact absurd e0 h0
  obtain ⟨oc, od, dV, kV, doc, pm, an, cdv, ct, osl, rfl, lk, hcd, hD, hK⟩ := F.ex
  refine ⟨PySem.W.fnOf d.name d.qual d.params d.body d.scope dV kV doc pm an cdv ct, spOf (geOf hd.ti K) (Phi hd.ti.tb hd.fs (k + 1) i) 1, fun s u => ?_, fun H a ns hn hO hS => ?_, fun base => ?_⟩
  · have := bi s [u] (by rw [hps]; rfl)
    rw [hps] at this
    exact this
  · obtain ⟨M, hM⟩ := hlaw ns hn
    refine ⟨rfl, [.d (.scr ns)], [], H, [], fun _ => none, ?_, ?_, ?_⟩
    · exact .cons (.scr hS) .nil
    · exact { ex := fun _ _ e => e, pr := fun _ _ e => (by cases e), pf := fun _ _ e => (by cases e), len := rfl, nd := List.nodup_nil, cells := fun j a m e => (by simp at e) }
    · rw [hM]
      intro u F' H' _ _ r
      cases r with
      | bl b => rfl
  · have eφ : Phi hd.ti.tb hd.fs (k + 1) i = runF hd.ti.tb (Phi hd.ti.tb hd.fs k) fi := by
      rw [Phi, h1]
    rw [eφ, ← hps]
    have e1 : fx.ps.length = 1 := by rw [hps]; rfl
    refine fn_of lk hcd h3.scope (fun vs H Q E h => by rw [e1]; exact h.1) fun A outer s H vs Q E hr hsp => ?_
    obtain ⟨hl1, as, M, F, Ac, P, rs, rm, hm⟩ := hsp
    have hpl : fx.ps.length ≤ N.length := by have := congrArg List.length h3.scope.pre; rw [List.length_take] at this; omega
    exact ⟨TSt (geOf hd.ti K) P none (fun cls d _ H => E cls d H) Ac (evB hd.ti.tb (Phi hd.ti.tb hd.fs k) Ac.length fi.body), sndB fi.body (xok_of B h3.scope (fnC_all B hl k) hr) B.rai (takes_of (E₁ := fun e' s'' => L2.CX hd.prog w outer H s E e' s'') rfl rfl rfl rfl) h3.ok,
      _, F, Ac, List.prefix_refl _, start_rel h3.slots rs rm (by omega), body_ends rm.len hm⟩
end
end GF

set_option Elab.async false
set_option linter.all false
set_option maxRecDepth 100000
set_option autoImplicit false
set_option maxHeartbeats 1000000
namespace GF
open PySem PySem.Spec PyProof.Rows L2
theorem walk_cx {l : PySem.W.OpenLaw} {n k : Nat} {q : Program} {loose : List Str} {XP : (Str → Option Value) → Heap → Prop} {YP : World → Heap → Prop} {d : DefRec} {x : Str}
    (hn : l.most = some n) (hn2 : n ≤ sizeLine) (hdf : d.params.defaults = []) (hr : Room k callerA)
    (F : ∀ (w : World) (mg : Str → Option Value) (fa : Addr) (h : Heap), YP w h → h.Ns mainGlobals mg → mg d.name = some (.ref fa) →
      ∃ (K : PySem.W.Frag), K.In h ∧ ∃ (fd : FuncData) (sp : Sp), (∀ (s : Shared) (u : Value), BindsTo s fd ⟨[u], []⟩ [(x, u)]) ∧
        (∀ (H : Hp) (a : Addr) (ns : List Int), ns.length ≤ n → Only H → SqL K H a (ns.map V.int) → sp [.ref a] H (fun v _ => v = .bl true) fun _ _ _ => False) ∧
        ∀ base : Heap, FnOk l.prog w K mg base (L2.CX l.prog w) k fa fd [x] sp) :
    PySem.W.WalkO q loose XP YP l.row.toRowW d [] (fun f vs => PySem.call f vs) := by
  refine Att.attach_call hn hdf fun w s₀ s₁ mg mb fa o pm cd doc a vs ns G Y ho hd hcd hmg hobj hints hlen hg => ?_
  obtain ⟨K, KX, fd, sp, hb, hsp, hF⟩ := F w mg fa _ Y G.T.g hmg
  exact law_call KX G.T.g G.T.b G.T.builtins G.T.nolimit hg hobj hints (Nat.le_trans hlen hn2) hr (fun base _ _ => hF base) hb (fun H hO hS => hsp H a ns hlen hO hS) fun H e s' ⟨_, _, _, _, _, _, _, _, _, _, _, _, z⟩ => z
end GF

set_option linter.all false
set_option maxRecDepth 100000
namespace GF
/-! ### symbolic runs: the small language by simp -/
@[simp high] theorem obs {α β : Type} (a : α) (f : α → Option β) : (some a).bind f = f a := (rfl)
@[simp high] theorem oms {α β : Type} (a : α) (f : α → β) : (some a).map f = some (f a) := (rfl)
@[simp] theorem bindOk {α β : Type} (a : α) (s : S) (f : α → S → R β) : (R.ok a s).bind f = f a s := (rfl)
@[simp] theorem bindExc {α β : Type} (c : Nat) (fs : List D) (s : S) (f : α → S → R β) : (R.exc c fs s : R α).bind f = .exc c fs s := (rfl)
@[simp] theorem bindStuck {α β : Type} (f : α → S → R β) : (R.stuck : R α).bind f = .stuck := (rfl)
@[simp] theorem optSome {α β : Type} (a : α) (s : S) (f : α → β) : optR (some a) s f = .ok (f a) s := (rfl)
@[simp] theorem optNone {α β : Type} (s : S) (f : α → β) : optR (none : Option α) s f = .stuck := (rfl)
/-- what a slot holds, read -/
def slG : Option (Option Sl) → Option Sl
  | some (some v) => some v
  | _ => none
@[simp] theorem slG_some (v : Sl) : slG (some (some v)) = some v := (rfl)
@[simp] theorem get_mk (ρ : List (Option Sl)) (M : List D) (i : Nat) : S.get ⟨ρ, M⟩ i = slG ρ[i]? := by
  simp only [S.get, slG]
  try (split <;> simp_all)
@[simp] theorem put_mk (ρ : List (Option Sl)) (M : List D) (i : Nat) (v : Sl) : S.put ⟨ρ, M⟩ i v = ⟨ρ.set i (some v), M⟩ := (rfl)

section
variable {tb : Tb} {Φ : Nat → FM}
@[simp] theorem eVar (i : Nat) (s : S) : evE tb Φ (.var i) s = optR (s.get i) s id := by rw [evE]
@[simp] theorem eCst (d : D) (s : S) : evE tb Φ (.cst d) s = .ok (.d d) s := by rw [evE]
@[simp] theorem eGlo (i : Nat) (s : S) : evE tb Φ (.glo i) s = optR tb.consts[i]? s .d := by rw [evE]
def binS (o : Bop) : Sl → Sl → Option D
  | .d x, .d y => binD o x y
  | _, _ => none
@[simp] theorem binS_d (o : Bop) (x y : D) : binS o (.d x) (.d y) = binD o x y := (rfl)
@[simp] theorem eBin (o : Bop) (a b : E) (s : S) : evE tb Φ (.bin o a b) s = (evE tb Φ a s).bind fun x s => (evE tb Φ b s).bind fun y s => optR (binS o x y) s .d := by
  rw [evE]
  congr; funext x s; congr; funext y s
  cases x <;> cases y <;> rfl
@[simp] theorem eNeg (a : E) (s : S) : evE tb Φ (.neg a) s = (evE tb Φ a s).bind fun x s => optR (intSl x) s fun i => .d (.int (-i)) := by rw [evE]
@[simp] theorem eCmp (o : Cop) (a b : E) (s : S) : evE tb Φ (.cmp o a b) s = (evE tb Φ a s).bind fun x s => (evE tb Φ b s).bind fun y s => optR (cmpS o x y) s fun c => .d (.bl c) := by rw [evE]
def ifO {α : Type} (o : Option Bool) (a b : R α) : R α := match o with
  | some true => a
  | some false => b
  | none => .stuck
@[simp] theorem ifO_some {α : Type} (c : Bool) (a b : R α) : ifO (some c) a b = if c = true then a else b := by cases c <;> rfl
@[simp] theorem ifO_none {α : Type} (a b : R α) : ifO none a b = .stuck := (rfl)
@[simp] theorem eCmp2 (o1 o2 : Cop) (a b c : E) (s : S) : evE tb Φ (.cmp2 o1 o2 a b c) s = (evE tb Φ a s).bind fun x s => (evE tb Φ b s).bind fun y s => ifO (cmpS o1 x y) ((evE tb Φ c s).bind fun z s => optR (cmpS o2 y z) s fun c => .d (.bl c)) (.ok (.d (.bl false)) s) := by
  rw [evE]
  congr
@[simp] theorem eAnd (a b : E) (s : S) : evE tb Φ (.vand a b) s = (evE tb Φ a s).bind fun x s => ifO (blSl x) (evE tb Φ b s) (.ok (.d (.bl false)) s) := by
  rw [evE]
  congr
@[simp] theorem eOr (a b : E) (s : S) : evE tb Φ (.vor a b) s = (evE tb Φ a s).bind fun x s => ifO (blSl x) (.ok (.d (.bl true)) s) (evE tb Φ b s) := by
  rw [evE]
  congr
@[simp] theorem eNot (a : E) (s : S) : evE tb Φ (.vnot a) s = (evE tb Φ a s).bind fun x s => optR (blSl x) s fun b => .d (.bl !b) := by rw [evE]
@[simp] theorem eOne (a : E) (s : S) : evE tb Φ (.one a) s = evE tb Φ a s := by rw [evE]
@[simp] theorem eIfe (t : T) (a b : E) (s : S) : evE tb Φ (.ife t a b) s = (evT tb Φ t s).bind fun c s => if c = true then evE tb Φ a s else evE tb Φ b s := by
  rw [evE]
  congr; funext c s; cases c <;> rfl
@[simp] theorem eIx (a i : E) (s : S) : evE tb Φ (.ix a i) s = (evE tb Φ a s).bind fun x s => (evE tb Φ i s).bind fun y s => optR ((intSl y).bind (ixS s.M x)) s .d := by
  rw [evE]
  congr; funext x s; congr; funext y s
  cases intSl y <;> rfl
def slS (l h : Option Int) : Sl → Option D
  | .d (.str t) => some (.str (cut t l h))
  | .d (.tup xs) => some (.tup (cut xs l h))
  | _ => none
@[simp] theorem slS_str (l h : Option Int) (t : Tx) : slS l h (.d (.str t)) = some (.str (cut t l h)) := (rfl)
@[simp] theorem slS_tup (l h : Option Int) (t : List D) : slS l h (.d (.tup t)) = some (.tup (cut t l h)) := (rfl)
@[simp] theorem eSl (a : E) (lo hi : P) (s : S) : evE tb Φ (.sl a lo hi) s = (evE tb Φ a s).bind fun x s => (evP tb Φ lo s).bind fun l s => (evP tb Φ hi s).bind fun h s => optR (slS l h x) s .d := by
  rw [evE]
  congr; funext x s; congr; funext l s; congr; funext h s
  cases x with
  | d x => cases x <;> rfl
  | _ => rfl
@[simp] theorem eTup (as : As) (s : S) : evE tb Φ (.tup as) s = (evA tb Φ as s).bind fun vs s => optR (datas vs) s fun ds => .d (.tup ds) := by rw [evE]
@[simp] theorem eFrz (n : N) (s : S) : evE tb Φ (.frz n) s = (evN tb Φ n s).bind fun ds s => .ok (.d (.lst ds)) s := by rw [evE]
@[simp] theorem eCall (f : Nat) (as : As) (s : S) : evE tb Φ (.call f as) s = (evA tb Φ as s).bind fun vs s => (callF (Φ f) vs s).bind fun v s => .ok (rvSl v) s := by rw [evE]
def patF (tb : Tb) (Φ : Nat → FM) (p : Nat) (vs ws : List Sl) (s : S) : R Sl := match tb.pats[p]? with
    | some q => (callF (Φ q.f) (permute q.perm (vs ++ (ws ++ q.dfl.map .d))) s).bind fun v s => .ok (rvSl v) s
    | none => .stuck
@[simp] theorem eCallK (p : Nat) (as bs : As) (s : S) : evE tb Φ (.callK p as bs) s = (evA tb Φ as s).bind fun vs s => (evA tb Φ bs s).bind fun ws s => patF tb Φ p vs ws s := by
  rw [evE]
  rfl
@[simp] theorem eBlt (b : Blt) (as : As) (s : S) : evE tb Φ (.blt b as) s = (evA tb Φ as s).bind fun vs s => optR (bltS s.M b vs) s .d := by rw [evE]
def bmF (tb : Tb) (Φ : Nat → FM) (m : Bm) (as : As) (x : Sl) (s : S) : R Sl := match x with
    | .d (.str t) => (evA tb Φ as s).bind fun vs s => optR (bmS s.M m (.d (.str t)) vs) s .d
    | _ => .stuck
@[simp] theorem bmF_str (m : Bm) (as : As) (t : Tx) (s : S) : bmF tb Φ m as (.d (.str t)) s = (evA tb Φ as s).bind fun vs s => optR (bmS s.M m (.d (.str t)) vs) s .d := (rfl)
@[simp] theorem eBm (m : Bm) (o : E) (as : As) (s : S) : evE tb Φ (.bm m o as) s = (evE tb Φ o s).bind fun x s => bmF tb Φ m as x s := by
  rw [evE]
  congr
def cellG (s : S) (o : Option Sl) : Option (Nat × List D) := match o with
  | some (.ref j) => match s.M[j]? with
    | some (.lst xs) => some (j, xs)
    | _ => none
  | _ => none
def lstD : Option D → Option (List D)
  | some (.lst xs) => some xs
  | _ => none
@[simp] theorem lstD_some (xs : List D) : lstD (some (.lst xs)) = some xs := (rfl)
@[simp] theorem cellG_ref (ρ : List (Option Sl)) (M : List D) (j : Nat) : cellG ⟨ρ, M⟩ (some (.ref j)) = (lstD M[j]?).map fun xs => (j, xs) := by
  simp only [cellG, lstD]
  cases M[j]? with
  | none => rfl
  | some c => cases c <;> rfl
def mutF (m : Mu) (j : Nat) (vs : List Sl) (s : S) : R Sl := match lstD s.M[j]? with
  | some xs => match muS m xs vs with
    | some (v, ys) => .ok (.d v) ⟨s.ρ, s.M.set j (.lst ys)⟩
    | none => .stuck
  | none => .stuck
def putM (s : S) (j : Nat) : Option (D × List D) → R Sl
  | some p => .ok (.d p.1) ⟨s.ρ, s.M.set j (.lst p.2)⟩
  | none => .stuck
@[simp] theorem putM_some (s : S) (j : Nat) (v : D) (ys : List D) : putM s j (some (v, ys)) = .ok (.d v) ⟨s.ρ, s.M.set j (.lst ys)⟩ := (rfl)
@[simp] theorem mutF_mk (m : Mu) (j : Nat) (vs : List Sl) (ρ : List (Option Sl)) (M : List D) : mutF m j vs ⟨ρ, M⟩ = putM ⟨ρ, M⟩ j ((lstD M[j]?).bind fun xs => muS m xs vs) := by
  simp only [mutF]
  cases lstD M[j]? with
  | none => rfl
  | some xs =>
    simp only [Option.bind]
    cases muS m xs vs with
    | none => rfl
    | some p => rfl
def mutG (tb : Tb) (Φ : Nat → FM) (m : Mu) (as : As) (s : S) : Option (Nat × List D) → R Sl
  | some p => (evA tb Φ as s).bind fun vs s => mutF m p.1 vs s
  | none => .stuck
@[simp] theorem mutG_some (m : Mu) (as : As) (s : S) (j : Nat) (xs : List D) : mutG tb Φ m as s (some (j, xs)) = (evA tb Φ as s).bind fun vs s => mutF m j vs s := (rfl)
@[simp] theorem eMut (m : Mu) (i : Nat) (as : As) (s : S) : evE tb Φ (.mut m i as) s = mutG tb Φ m as s (cellG s (s.get i)) := by
  unfold cellG
  cases hg : s.get i with
  | none => simp only [evE, hg]; rfl
  | some v =>
    cases v with
    | ref j =>
      cases h : s.M[j]? with
      | none => simp only [evE, hg, h]; rfl
      | some c =>
        cases c with
        | lst xs =>
          simp only [evE, hg, h, mutG]
          apply congrArg
          funext vs s
          simp only [mutF]
          cases s.M[j]? with
          | none => rfl
          | some c => cases c <;> rfl
        | _ => simp only [evE, hg, h]; rfl
    | _ => simp only [evE, hg]; rfl
@[simp] theorem eIsi (a : E) (t : Ty) (s : S) : evE tb Φ (.isi a t) s = (evE tb Φ a s).bind fun x s => optR (isiS tb s.M x t) s fun b => .d (.bl b) := by rw [evE]
def efS (k f : Nat) : Sl → Option D
  | .exn c fs => if c = k then fs[f]? else none
  | _ => none
@[simp] theorem efS_exn (k f c : Nat) (fs : List D) : efS k f (.exn c fs) = if c = k then fs[f]? else none := (rfl)
@[simp] theorem eEfld (a : E) (k f : Nat) (s : S) : evE tb Φ (.efld a k f) s = (evE tb Φ a s).bind fun x s => optR (efS k f x) s .d := by
  rw [evE]
  congr; funext x s
  cases x with
  | exn c fs => simp only [efS]; split <;> rfl
  | _ => rfl
@[simp] theorem eRev (a : E) (s : S) : evE tb Φ (.rev a) s = (evE tb Φ a s).bind fun x s => optR (revD x) s .d := by rw [evE]
@[simp] theorem tVal (e : E) (s : S) : evT tb Φ (.val e) s = (evE tb Φ e s).bind fun x s => optR (blSl x) s id := by rw [evT]
@[simp] theorem tTru (e : E) (s : S) : evT tb Φ (.tru e) s = (evE tb Φ e s).bind fun x s => optR (truS s.M x) s id := by rw [evT]
@[simp] theorem tCmp (o : Cop) (a b : E) (s : S) : evT tb Φ (.cmp o a b) s = (evE tb Φ a s).bind fun x s => (evE tb Φ b s).bind fun y s => optR (cmpS o x y) s id := by rw [evT]
@[simp] theorem tCmp2 (o1 o2 : Cop) (a b c : E) (s : S) : evT tb Φ (.cmp2 o1 o2 a b c) s = (evE tb Φ a s).bind fun x s => (evE tb Φ b s).bind fun y s => ifO (cmpS o1 x y) ((evE tb Φ c s).bind fun z s => optR (cmpS o2 y z) s id) (.ok false s) := by
  rw [evT]
  congr
@[simp] theorem tAnd (a b : T) (s : S) : evT tb Φ (.tand a b) s = (evT tb Φ a s).bind fun c s => if c = true then evT tb Φ b s else .ok false s := by
  rw [evT]
  congr; funext c s; cases c <;> rfl
@[simp] theorem tOr (a b : T) (s : S) : evT tb Φ (.tor a b) s = (evT tb Φ a s).bind fun c s => if c = true then .ok true s else evT tb Φ b s := by
  rw [evT]
  congr; funext c s; cases c <;> rfl
@[simp] theorem tNot (a : T) (s : S) : evT tb Φ (.tnot a) s = (evT tb Φ a s).bind fun c s => .ok (!c) s := by rw [evT]
@[simp] theorem tOne (a : T) (s : S) : evT tb Φ (.one a) s = evT tb Φ a s := by rw [evT]
@[simp] theorem nDisp (as : As) (s : S) : evN tb Φ (.disp as) s = (evA tb Φ as s).bind fun vs s => optR (datas vs) s id := by rw [evN]
@[simp] theorem nCat (a b : N) (s : S) : evN tb Φ (.cat a b) s = (evN tb Φ a s).bind fun xs s => (evN tb Φ b s).bind fun ys s => if xs.length + ys.length ≤ LN then .ok (xs ++ ys) s else .stuck := by rw [evN]
@[simp] theorem nRep (a : N) (n : E) (s : S) : evN tb Φ (.rep a n) s = (evN tb Φ a s).bind fun xs s => (evE tb Φ n s).bind fun y s => optR ((intSl y).bind fun k => if -(2 ^ 63) ≤ k ∧ k < 2 ^ 63 ∧ xs.length * k.toNat ≤ LN then some (List.replicate k.toNat xs).flatten else none) s id := by
  rw [evN]
  congr; funext xs s; congr; funext y s
  cases intSl y with
  | none => rfl
  | some k => simp only [Option.bind]; split <;> rfl
@[simp] theorem nComp (i : Nat) (it : It) (t : T) (e : E) (s : S) : evN tb Φ (.comp i it t e) s = (evI tb Φ it s).bind fun xs s => if i < s.ρ.length then compGo (evT tb Φ t) (evE tb Φ e) i (s.ρ.set i none) xs [] s else .stuck := by rw [evN]
@[simp] theorem nComp0 (i : Nat) (it : It) (e : E) (s : S) : evN tb Φ (.comp0 i it e) s = (evI tb Φ it s).bind fun xs s => if i < s.ρ.length then compGo (fun s => .ok true s) (evE tb Φ e) i (s.ρ.set i none) xs [] s else .stuck := by rw [evN]
@[simp] theorem nOf (e : E) (s : S) : evN tb Φ (.ofSeq e) s = (evE tb Φ e s).bind fun x s => optR (seqS s.M x) s id := by rw [evN]
@[simp] theorem nCall (f : Nat) (as : As) (s : S) : evN tb Φ (.call f as) s = (evA tb Φ as s).bind fun vs s => (callF (Φ f) vs s).bind fun v s => optR (rvNew v) s id := by rw [evN]
@[simp] theorem nCut (e : E) (lo hi : P) (s : S) : evN tb Φ (.cut e lo hi) s = (evE tb Φ e s).bind fun x s => (evP tb Φ lo s).bind fun l s => (evP tb Φ hi s).bind fun h s => optR ((lstS s.M x).map fun xs => cut xs l h) s id := by
  rw [evN]
  congr; funext x s; congr; funext l s; congr; funext h s
  cases x with
  | d x => cases x <;> rfl
  | ref j =>
    simp only [lstS]
    cases s.M[j]? with
    | none => rfl
    | some c => cases c <;> rfl
  | exn => rfl
@[simp] theorem nRev (a : E) (s : S) : evN tb Φ (.rev a) s = (evE tb Φ a s).bind fun x s => optR ((lstS s.M x).map List.reverse) s id := by rw [evN]
@[simp] theorem nOdd (a : E) (s : S) : evN tb Φ (.odd a) s = (evE tb Φ a s).bind fun x s => optR ((lstS s.M x).map odds) s id := by rw [evN]
/-- a list that is there, behind or ahead -/
@[simp] theorem nCatE (a : E) (b : N) (s : S) : evN tb Φ (.catE a b) s = (evE tb Φ a s).bind fun x s => (evN tb Φ b s).bind fun ys s => (match x with
    | .d (.lst xs) => if xs.length + ys.length ≤ LN then .ok (xs ++ ys) s else .stuck
    | .ref j => (match s.M[j]? with
      | some (.lst xs) => if xs.length + ys.length ≤ LN then .ok (xs ++ ys) s else .stuck
      | _ => .stuck)
    | _ => .stuck) := by rw [evN]; try rfl
@[simp] theorem nCatF (a : N) (b : E) (s : S) : evN tb Φ (.catF a b) s = (evN tb Φ a s).bind fun xs s => (evE tb Φ b s).bind fun y s => (match y with
    | .d (.lst ys) => if xs.length + ys.length ≤ LN then .ok (xs ++ ys) s else .stuck
    | .ref j => (match s.M[j]? with
      | some (.lst ys) => if xs.length + ys.length ≤ LN then .ok (xs ++ ys) s else .stuck
      | _ => .stuck)
    | _ => .stuck) := by rw [evN]; try rfl
@[simp] theorem pNone (s : S) : evP tb Φ .none s = .ok Option.none s := by rw [evP]
@[simp] theorem pSome (e : E) (s : S) : evP tb Φ (.some e) s = (evE tb Φ e s).bind fun x s => optR (intSl x) s Option.some := by rw [evP]
@[simp] theorem iSeq (e : E) (s : S) : evI tb Φ (.seq e) s = (evE tb Φ e s).bind fun x s => optR (itemsS s.M x) s id := by rw [evI]
@[simp] theorem iNew (n : N) (s : S) : evI tb Φ (.new n) s = evN tb Φ n s := by rw [evI]
/-- small, as a Bool that computes nothing -/
noncomputable def smI (i : Int) : Bool := @decide (smallI i) (Classical.propDecidable _)
theorem smI_ok {i : Int} (h : -1000000000 ≤ i ∧ i ≤ 1000000000) : smI i = true := by
  have : smallI i := by unfold smallI; omega
  exact @decide_eq_true _ (Classical.propDecidable _) this
@[simp] theorem iR1 (a : E) (s : S) : evI tb Φ (.rng1 a) s = (evE tb Φ a s).bind fun x s => optR ((intSl x).bind fun i => if smI i = true then some (rangeL 0 i) else none) s id := by
  rw [evI]
  congr; funext x s
  cases intSl x with
  | none => rfl
  | some k => simp only [Option.bind, smI, decide_eq_true_eq]; split <;> rfl
@[simp] theorem iR2 (a b : E) (s : S) : evI tb Φ (.rng2 a b) s = (evE tb Φ a s).bind fun x s => (evE tb Φ b s).bind fun y s => optR ((intSl x).bind fun i => (intSl y).bind fun j => if smI i = true ∧ smI j = true then some (rangeL i j) else none) s id := by
  rw [evI]
  congr; funext x s; congr; funext y s
  cases intSl x with
  | none => rfl
  | some k =>
    cases intSl y with
    | none => rfl
    | some j => simp only [Option.bind, smI, decide_eq_true_eq]; split <;> rfl
@[simp] theorem iR3 (a b c : E) (s : S) : evI tb Φ (.rng3 a b c) s = (evE tb Φ a s).bind fun x s => (evE tb Φ b s).bind fun y s => (evE tb Φ c s).bind fun z s => optR ((intSl x).bind fun i => (intSl y).bind fun j => (intSl z).bind fun k => if smI i = true ∧ smI j = true ∧ k ≠ 0 ∧ k.natAbs < 1073741824 then some (rangeL3 i j k) else none) s id := by
  rw [evI]
  congr; funext x s; congr; funext y s; congr; funext z s
  cases intSl x with
  | none => rfl
  | some i =>
    cases intSl y with
    | none => rfl
    | some j =>
      cases intSl z with
      | none => rfl
      | some k => simp only [Option.bind, smI, decide_eq_true_eq]; split <;> rfl
@[simp] theorem ivRevS (a : E) (s : S) : evI tb Φ (.revS a) s = (evE tb Φ a s).bind fun x s => optR (revT x) s id := by rw [evI]
@[simp] theorem ivRevL (a : E) (s : S) : evI tb Φ (.revL a) s = (evE tb Φ a s).bind fun x s => optR (revI x) s id := by rw [evI]
@[simp] theorem aNil (s : S) : evA tb Φ .nil s = .ok [] s := by rw [evA]
@[simp] theorem aCons (e : E) (as : As) (s : S) : evA tb Φ (.cons e as) s = (evE tb Φ e s).bind fun x s => (evA tb Φ as s).bind fun xs s => .ok (x :: xs) s := by rw [evA]

/-! statements -/
def dSl : Sl → Option D
  | .d x => some x
  | _ => none
@[simp] theorem dSl_d (x : D) : dSl (.d x) = some x := (rfl)
def kO {α β : Type} (o : Option α) (f : α → R β) : R β := match o with
  | some a => f a
  | none => .stuck
@[simp] theorem kO_some {α β : Type} (a : α) (f : α → R β) : kO (some a) f = f a := (rfl)
@[simp] theorem kO_none {α β : Type} (f : α → R β) : kO (none : Option α) f = .stuck := (rfl)
@[simp] theorem sSet (b0 i : Nat) (e : E) (s : S) : evS tb Φ b0 (.set i e) s = (evE tb Φ e s).bind fun v s => kO (dSl v) fun x => if i < s.ρ.length then .ok .next (s.put i (.d x)) else .stuck := by
  rw [evS]
  congr; funext v s; cases v <;> rfl
@[simp] theorem sSetN (b0 i : Nat) (n : N) (s : S) : evS tb Φ b0 (.setN i n) s = (evN tb Φ n s).bind fun ds s => if i < s.ρ.length then .ok .next ⟨s.ρ.set i (some (.ref s.M.length)), s.M ++ [.lst ds]⟩ else .stuck := by rw [evS]
def refSl : Option Sl → Option Nat
  | some (.ref j) => some j
  | _ => none
@[simp] theorem refSl_ref (j : Nat) : refSl (some (.ref j)) = some j := (rfl)
@[simp] theorem sSetR (b0 i : Nat) (n : N) (s : S) : evS tb Φ b0 (.setR i n) s = (evN tb Φ n s).bind fun ds s => kO (refSl (s.get i)) fun j => if b0 ≤ j ∧ j < s.M.length ∧ noRef j (s.ρ.set i none) = true then .ok .next ⟨s.ρ, s.M.set j (.lst ds)⟩ else .stuck := by
  rw [evS]
  congr; funext ds s
  cases s.get i with
  | none => rfl
  | some v => cases v <;> rfl
@[simp] theorem sSetsub (b0 i : Nat) (x e : E) (s : S) : evS tb Φ b0 (.setsub i x e) s = (evE tb Φ e s).bind fun v s => kO (refSl (s.get i)) fun j => (evE tb Φ x s).bind fun k s => kO (dSl v) fun v => kO (intSl k) fun k => kO (lstD s.M[j]?) fun xs => kO (ixN xs.length k) fun p => .ok .next ⟨s.ρ, s.M.set j (.lst (xs.set p v))⟩ := by
  rw [evS]
  congr; funext v s
  cases s.get i with
  | none => rfl
  | some r =>
    cases r with
    | ref j =>
      simp only [refSl_ref, kO_some]
      congr; funext k s
      cases v with
      | d v =>
        simp only [dSl_d, kO_some]
        cases intSl k with
        | none => rfl
        | some k =>
          simp only [kO_some]
          cases s.M[j]? with
          | none => rfl
          | some c => cases c <;> first | rfl | (simp only [lstD_some, kO_some]; split <;> simp_all)
      | _ => rfl
    | _ => rfl
@[simp] theorem sAugsub (b0 i : Nat) (x : E) (o : Bop) (e : E) (s : S) : evS tb Φ b0 (.augsub i x o e) s = kO (refSl (s.get i)) fun j => (evE tb Φ x s).bind fun k s => kO (intSl k) fun k => kO (lstD s.M[j]?) fun xs => kO (atI xs k) fun old => (evE tb Φ e s).bind fun v s => kO (dSl v) fun v => kO (lstD s.M[j]?) fun ys => kO (binA o old v) fun r => kO (ixN ys.length k) fun p => .ok .next ⟨s.ρ, s.M.set j (.lst (ys.set p r))⟩ := by
  rw [evS]
  cases s.get i with
  | none => rfl
  | some r =>
    cases r with
    | ref j =>
      simp only [refSl_ref, kO_some]
      congr; funext k s
      cases intSl k with
      | none => rfl
      | some k =>
        simp only [kO_some]
        cases s.M[j]? with
        | none => rfl
        | some c =>
          cases c with
          | lst xs =>
            simp only [lstD_some, kO_some]
            cases atI xs k with
            | none => rfl
            | some old =>
              simp only [kO_some]
              congr; funext v s
              cases v with
              | d v =>
                simp only [dSl_d, kO_some]
                cases s.M[j]? with
                | none => rfl
                | some c =>
                  cases c with
                  | lst ys =>
                    simp only [lstD_some, kO_some]
                    cases binA o old v with
                    | none => rfl
                    | some r => cases ixN ys.length k <;> rfl
                  | _ => rfl
              | _ => rfl
          | _ => rfl
    | _ => rfl
def dataO : Option Sl → Option D
  | some (.d x) => some x
  | _ => none
@[simp] theorem dataO_d (x : D) : dataO (some (.d x)) = some x := (rfl)
@[simp] theorem sAug (b0 i : Nat) (o : Bop) (e : E) (s : S) : evS tb Φ b0 (.aug i o e) s = kO (dataO (s.get i)) fun x => (evE tb Φ e s).bind fun v s => kO (dSl v) fun y => kO (binA o x y) fun r => .ok .next (s.put i (.d r)) := by
  rw [evS]
  cases s.get i with
  | none => rfl
  | some r =>
    cases r with
    | d x =>
      simp only [dataO_d, kO_some]
      congr; funext v s
      cases v with
      | d y => simp only [dSl_d, kO_some]; cases binA o x y <;> rfl
      | _ => rfl
    | _ => rfl
def tupO : Sl → Option (List D)
  | .d (.tup xs) => some xs
  | _ => none
@[simp] theorem tupO_tup (xs : List D) : tupO (.d (.tup xs)) = some xs := (rfl)
@[simp] theorem sUnp (b0 : Nat) (is : List Nat) (e : E) (s : S) : evS tb Φ b0 (.unp is e) s = (evE tb Φ e s).bind fun v s => kO (tupO v) fun xs => kO (putMany is xs s) fun s' => .ok .next s' := by
  rw [evS]
  congr; funext v s
  cases v with
  | d x => cases x <;> first | rfl | (simp only [tupO_tup, kO_some]; rename_i xs; cases putMany is xs s <;> rfl)
  | _ => rfl
@[simp] theorem sPar2 (b0 i j : Nat) (a b : E) (s : S) : evS tb Φ b0 (.par2 i j a b) s = (evE tb Φ a s).bind fun x s => (evE tb Φ b s).bind fun y s => kO (dSl x) fun x => kO (dSl y) fun y => if i < s.ρ.length ∧ j < s.ρ.length then .ok .next ((s.put i (.d x)).put j (.d y)) else .stuck := by
  rw [evS]
  congr; funext x s; congr; funext y s
  cases x <;> cases y <;> rfl
@[simp] theorem sEx (b0 : Nat) (e : E) (s : S) : evS tb Φ b0 (.ex e) s = (evE tb Φ e s).bind fun _ s => .ok .next s := by rw [evS]
@[simp] theorem sRet (b0 : Nat) (e : E) (s : S) : evS tb Φ b0 (.ret e) s = (evE tb Φ e s).bind fun v s => kO (dSl v) fun x => .ok (.ret (.d x)) s := by
  rw [evS]
  congr; funext v s; cases v <;> rfl
@[simp] theorem sRetN (b0 : Nat) (n : N) (s : S) : evS tb Φ b0 (.retN n) s = (evN tb Φ n s).bind fun ds s => .ok (.ret (.new ds)) s := by rw [evS]
@[simp] theorem sRetC (b0 i : Nat) (s : S) : evS tb Φ b0 (.retC i) s = kO (cellG s (s.get i)) fun p => if b0 ≤ p.1 then .ok (.ret (.new p.2)) ⟨s.ρ.map fun _ => none, s.M.take p.1⟩ else .stuck := by
  unfold cellG
  cases hg : s.get i with
  | none => simp only [evS, hg]; rfl
  | some v =>
    cases v with
    | ref j =>
      cases h : s.M[j]? with
      | none => simp only [evS, hg, h]; rfl
      | some c => cases c <;> (simp only [evS, hg, h]; rfl)
    | _ => simp only [evS, hg]; rfl
@[simp] theorem sRet0 (b0 : Nat) (s : S) : evS tb Φ b0 .ret0 s = .ok (.ret (.d .non)) s := by rw [evS]
@[simp] theorem sIfs (b0 : Nat) (t : T) (a b : Bl) (s : S) : evS tb Φ b0 (.ifs t a b) s = (evT tb Φ t s).bind fun c s => if c = true then evB tb Φ b0 a s else evB tb Φ b0 b s := by
  rw [evS]
  congr; funext c s; cases c <;> rfl
@[simp] theorem sFor1 (b0 i : Nat) (it : It) (fg : List Nat) (b : Bl) (s : S) : evS tb Φ b0 (.for1 i it fg b) s = (evI tb Φ it s).bind fun xs s => if belowS s.M.length (forget fg s.ρ) = true then forGo (setOne i) (evB tb Φ b0 b) fg s.M.length (xs.map .d) (clean fg s.M.length s) else .stuck := by rw [evS]
@[simp] theorem sForD (b0 i : Nat) (as : As) (fg : List Nat) (b : Bl) (s : S) : evS tb Φ b0 (.forD i as fg b) s = (evA tb Φ as s).bind fun xs s => if belowS s.M.length (forget fg s.ρ) = true then forGo (setOne i) (evB tb Φ s.M.length b) fg s.M.length xs (clean fg s.M.length s) else .stuck := by rw [evS]
def enumO : Sl → Option (List D)
  | .d (.lst xs) => some xs
  | .d (.tup xs) => some xs
  | .d (.str t) => some (t.map fun c => .str [c])
  | _ => none
@[simp] theorem enumO_lst (xs : List D) : enumO (.d (.lst xs)) = some xs := (rfl)
@[simp] theorem enumO_tup (xs : List D) : enumO (.d (.tup xs)) = some xs := (rfl)
@[simp] theorem enumO_str (t : Tx) : enumO (.d (.str t)) = some (t.map fun c => .str [c]) := (rfl)
@[simp] theorem sForE (b0 i j : Nat) (e : E) (fg : List Nat) (b : Bl) (s : S) : evS tb Φ b0 (.forE i j e fg b) s = (evE tb Φ e s).bind fun v s => kO (enumO v) fun xs => if belowS s.M.length (forget fg s.ρ) = true then forGo (setTwo i j) (evB tb Φ b0 b) fg s.M.length ((enumL 0 xs).map .d) (clean fg s.M.length s) else .stuck := by
  rw [evS]
  congr; funext v s
  cases v with
  | d x => cases x <;> rfl
  | _ => rfl
@[simp] theorem sForC (b0 i src n : Nat) (fg : List Nat) (b : Bl) (s : S) : evS tb Φ b0 (.forC i src n fg b) s = kO (refSl (s.get src)) fun j => if belowS s.M.length (forget fg s.ρ) = true then liveGo (setOne i) (evB tb Φ s.M.length b) fg s.M.length j n 0 (clean fg s.M.length s) else .stuck := by
  rw [evS]
  cases s.get src with
  | none => rfl
  | some v => cases v <;> rfl
@[simp] theorem sWhl (b0 n : Nat) (t : T) (fg : List Nat) (b : Bl) (s : S) : evS tb Φ b0 (.whl n t fg b) s = if belowS s.M.length (forget fg s.ρ) = true then whileGo (evT tb Φ t) (evB tb Φ b0 b) fg s.M.length n (clean fg s.M.length s) else .stuck := by rw [evS]
@[simp] theorem sBrk (b0 : Nat) (s : S) : evS tb Φ b0 .brk s = .ok .brk s := by rw [evS]
@[simp] theorem sCont (b0 : Nat) (s : S) : evS tb Φ b0 .cont s = .ok .cont s := by rw [evS]
@[simp] theorem sPass (b0 : Nat) (s : S) : evS tb Φ b0 .pass s = .ok .next s := by rw [evS]
def arity (tb : Tb) (c : Nat) : Option Nat := (tb.cls[c]?).map (fun i => i.flds.length)
@[simp] theorem sRai (b0 c : Nat) (as : As) (s : S) : evS tb Φ b0 (.rai c as) s = (evA tb Φ as s).bind fun vs s => kO (datas vs) fun ds => if raiOk ds = true ∧ arity tb c = some ds.length then .exc c ds s else .stuck := by
  rw [evS]
  congr; funext vs s
  cases datas vs <;> rfl
def tryF (tb : Tb) (Φ : Nat → FM) (b0 : Nat) (hs : Hs) : R Flow → R Flow
  | .exc c fs s' => evH tb Φ b0 hs c fs s'
  | r => r
@[simp] theorem tryF_ok (b0 : Nat) (hs : Hs) (f : Flow) (s : S) : tryF tb Φ b0 hs (.ok f s) = .ok f s := (rfl)
@[simp] theorem tryF_exc (b0 : Nat) (hs : Hs) (c : Nat) (fs : List D) (s : S) : tryF tb Φ b0 hs (.exc c fs s) = evH tb Φ b0 hs c fs s := (rfl)
@[simp] theorem tryF_stuck (b0 : Nat) (hs : Hs) : tryF tb Φ b0 hs .stuck = .stuck := (rfl)
@[simp] theorem sTry (b0 : Nat) (b : Bl) (hs : Hs) (s : S) : evS tb Φ b0 (.tryS b hs) s = tryF tb Φ b0 hs (evB tb Φ b0 b s) := by
  rw [evS]
  cases evB tb Φ b0 b s <;> rfl
@[simp] theorem bNil (b0 : Nat) (s : S) : evB tb Φ b0 .nil s = .ok .next s := by rw [evB]
def seqF (tb : Tb) (Φ : Nat → FM) (b0 : Nat) (b : Bl) (s : S) : Flow → R Flow
  | .next => evB tb Φ b0 b s
  | f => .ok f s
@[simp] theorem seqF_next (b0 : Nat) (b : Bl) (s : S) : seqF tb Φ b0 b s .next = evB tb Φ b0 b s := (rfl)
@[simp] theorem seqF_brk (b0 : Nat) (b : Bl) (s : S) : seqF tb Φ b0 b s .brk = .ok .brk s := (rfl)
@[simp] theorem seqF_cont (b0 : Nat) (b : Bl) (s : S) : seqF tb Φ b0 b s .cont = .ok .cont s := (rfl)
@[simp] theorem seqF_ret (b0 : Nat) (b : Bl) (s : S) (v : Rv) : seqF tb Φ b0 b s (.ret v) = .ok (.ret v) s := (rfl)
@[simp] theorem bCons (b0 : Nat) (st : St) (b : Bl) (s : S) : evB tb Φ b0 (.cons st b) s = (evS tb Φ b0 st s).bind fun f s => seqF tb Φ b0 b s f := by
  rw [evB]
  congr
@[simp] theorem bGh (b0 : Nat) (g : G) (b : Bl) (s : S) : evB tb Φ b0 (.gh g b) s = (ghost b0 g s).bind fun _ s => evB tb Φ b0 b s := by rw [evB]
@[simp] theorem hNil (b0 c : Nat) (fs : List D) (s : S) : evH tb Φ b0 .nil c fs s = .exc c fs s := by rw [evH]
def hEnd : R Flow → R Flow
  | .ok f s' => .ok f s'
  | _ => .stuck
@[simp] theorem hEnd_ok (f : Flow) (s : S) : hEnd (.ok f s) = .ok f s := (rfl)
def hEndI (i : Nat) : R Flow → R Flow
  | .ok f s' => if noEx (s'.ρ.set i none) = true then .ok f ⟨s'.ρ.set i none, s'.M⟩ else .stuck
  | _ => .stuck
@[simp] theorem hEndI_ok (i : Nat) (f : Flow) (s' : S) : hEndI i (.ok f s') = if noEx (s'.ρ.set i none) = true then .ok f ⟨s'.ρ.set i none, s'.M⟩ else .stuck := (rfl)
@[simp] theorem hConsN (b0 k : Nat) (b : Bl) (hs : Hs) (c : Nat) (fs : List D) (s : S) : evH tb Φ b0 (.cons k none b hs) c fs s = if c < tb.cls.length ∧ k < tb.cls.length ∧ tb.isExc c = true ∧ tb.isExc k = true then (if tb.isSub c k = true then hEnd (evB tb Φ b0 b s) else evH tb Φ b0 hs c fs s) else .stuck := by
  rw [evH]
  congr
@[simp] theorem hConsI (b0 k i : Nat) (b : Bl) (hs : Hs) (c : Nat) (fs : List D) (s : S) : evH tb Φ b0 (.cons k (some i) b hs) c fs s = if c < tb.cls.length ∧ k < tb.cls.length ∧ tb.isExc c = true ∧ tb.isExc k = true then (if tb.isSub c k = true then (if i < s.ρ.length then hEndI i (evB tb Φ b0 b (s.put i (.exn c fs))) else .stuck) else evH tb Φ b0 hs c fs s) else .stuck := by
  rw [evH]
  congr
end
end GF

set_option linter.all false
set_option maxRecDepth 100000
namespace GF
/-! ### symbolic runs: data -/
/-- a slot with data or nothing -/
abbrev sd (o : Option D) : Option Sl := o.map Sl.d
@[simp] theorem bAddI (a b : Int) : binD .add (.int a) (.int b) = some (.int (a + b)) := (rfl)
@[simp] theorem bSubI (a b : Int) : binD .sub (.int a) (.int b) = some (.int (a - b)) := (rfl)
theorem bMulI (a b : Int) : binD .mul (.int a) (.int b) = if a.natAbs.log2 + b.natAbs.log2 < 1000000 then some (.int (a * b)) else none := rfl
@[simp] theorem bModI (a b : Int) : binD .mod (.int a) (.int b) = if b ≠ 0 then some (.int (Int.fmod a b)) else none := (rfl)
@[simp] theorem bDivI (a b : Int) : binD .fdiv (.int a) (.int b) = if b ≠ 0 ∧ b.natAbs.log2 < 9000 then some (.int (Int.fdiv a b)) else none := (rfl)
@[simp] theorem bPowI (a b : Int) : binD .pow (.int a) (.int b) = if 0 ≤ b ∧ b ≤ 1000000 ∧ a.natAbs < 2 ^ 64 then some (.int (a ^ b.toNat)) else none := (rfl)
@[simp] theorem bAddS (a b : Tx) : binD .add (.str a) (.str b) = if a.length + b.length ≤ LN then some (.str (a ++ b)) else none := (rfl)
@[simp] theorem bAddT (a b : List D) : binD .add (.tup a) (.tup b) = if a.length + b.length ≤ LN then some (.tup (a ++ b)) else none := (rfl)
@[simp] theorem bMulS (a : Tx) (n : Int) : binD .mul (.str a) (.int n) = if a.length * n.toNat ≤ LN ∧ -(2 ^ 63) ≤ n ∧ n < 2 ^ 63 then some (.str (repT a n.toNat)) else none := (rfl)
@[simp] theorem binA_int (o : Bop) (a : Int) (y : D) : binA o (.int a) y = binD o (.int a) y := by cases o <;> rfl
@[simp] theorem binA_str (o : Bop) (a : Tx) (y : D) : binA o (.str a) y = binD o (.str a) y := by cases o <;> rfl
theorem beqD {α : Type} [BEq α] [LawfulBEq α] [DecidableEq α] (a b : α) : (a == b) = decide (a = b) := by
  by_cases h : a = b
  · subst h; simp
  · simp [h]
@[simp] theorem cEqI (a b : Int) : cmpS .eq (.d (.int a)) (.d (.int b)) = some (decide (a = b)) := by
  show some (a == b) = _
  rw [beqD]
@[simp] theorem cNeI (a b : Int) : cmpS .ne (.d (.int a)) (.d (.int b)) = some (!decide (a = b)) := by
  show some (!(a == b)) = _
  rw [beqD]
@[simp] theorem cEqS (a b : Tx) : cmpS .eq (.d (.str a)) (.d (.str b)) = some (decide (a = b)) := by
  show some (a == b) = _
  rw [beqD]
@[simp] theorem cNeS (a b : Tx) : cmpS .ne (.d (.str a)) (.d (.str b)) = some (!decide (a = b)) := by
  show some (!(a == b)) = _
  rw [beqD]
@[simp] theorem cLt (a b : Int) : cmpS .lt (.d (.int a)) (.d (.int b)) = some (decide (a < b)) := (rfl)
@[simp] theorem cLe (a b : Int) : cmpS .le (.d (.int a)) (.d (.int b)) = some (decide (a ≤ b)) := (rfl)
@[simp] theorem cGt (a b : Int) : cmpS .gt (.d (.int a)) (.d (.int b)) = some (decide (b < a)) := (rfl)
@[simp] theorem cGe (a b : Int) : cmpS .ge (.d (.int a)) (.d (.int b)) = some (decide (b ≤ a)) := (rfl)
@[simp] theorem cIn (a b : D) : cmpS .inn (.d a) (.d b) = inD a b := by cases a <;> rfl
@[simp] theorem cNotIn (a b : D) : cmpS .notin (.d a) (.d b) = (inD a b).map (!·) := by cases a <;> rfl
@[simp] theorem cIsN (x : D) : cmpS .isN (.d x) (.d .non) = some (match x with | .non => true | _ => false) := (rfl)
@[simp] theorem cNotN (x : D) : cmpS .notN (.d x) (.d .non) = some (match x with | .non => false | _ => true) := (rfl)
mutual
theorem eqv_refl : ∀ (n : Nat) (x : D), okEq n x = true → eqvD x x = true
  | _, .non, _ => by rw [eqvD]
  | _, .bl b, _ => by rw [eqvD]; simp
  | _, .int b, _ => by rw [eqvD]; simp
  | _, .str b, _ => by rw [eqvD]; simp
  | 0, .lst xs, h => by simp [okEq] at h
  | 0, .tup xs, h => by simp [okEq] at h
  | n + 1, .lst xs, h => by rw [eqvD]; exact eqvL_refl n xs (by simpa [okEq] using h)
  | n + 1, .tup xs, h => by rw [eqvD]; exact eqvL_refl n xs (by simpa [okEq] using h)
  | _, .obj _ _, h => by simp [okEq] at h
  | _, .scr _, h => by simp [okEq] at h
theorem eqvL_refl : ∀ (n : Nat) (xs : List D), (∀ x ∈ xs, okEq n x = true) → eqvL xs xs = true
  | _, [], _ => by rw [eqvL]
  | n, x :: xs, h => by
    rw [eqvL, eqv_refl n x (h x (by simp)), eqvL_refl n xs (fun y hy => h y (by simp [hy]))]
    rfl
end
theorem cmpEqSelf (x : D) (h : okEq 60 x = true) : cmpS .eq (.d x) (.d x) = some true := by
  have e : cmpS .eq (.d x) (.d x) = cmpD .eq x x := by cases x <;> rfl
  rw [e]
  show (if okEq 60 x && okEq 60 x then some (eqvD x x) else none) = _
  rw [h, eqv_refl 60 x h]; rfl
theorem cmpNeSelf (x : D) (h : okEq 60 x = true) : cmpS .ne (.d x) (.d x) = some false := by
  have e : cmpS .ne (.d x) (.d x) = cmpD .ne x x := by cases x <;> rfl
  rw [e]
  show (if okEq 60 x && okEq 60 x then some (!eqvD x x) else none) = _
  rw [h, eqv_refl 60 x h]; rfl
@[simp] theorem ok_int (n : Nat) (i : Int) : okEq n (.int i) = true := by cases n <;> rfl
@[simp] theorem ok_str (n : Nat) (i : Tx) : okEq n (.str i) = true := by cases n <;> rfl
@[simp] theorem ok_bl (n : Nat) (i : Bool) : okEq n (.bl i) = true := by cases n <;> rfl
@[simp] theorem ok_non (n : Nat) : okEq n .non = true := by cases n <;> rfl
@[simp] theorem ok_lst (n : Nat) (xs : List D) : okEq (n + 1) (.lst xs) = xs.all (okEq n) := (rfl)
@[simp] theorem ok_tup (n : Nat) (xs : List D) : okEq (n + 1) (.tup xs) = xs.all (okEq n) := (rfl)
@[simp] theorem ok_ints (n : Nat) (xs : List Int) : (xs.map D.int).all (okEq n) = true := by simp [List.all_eq_true]
@[simp] theorem seqS_lst (M : List D) (xs : List D) : seqS M (.d (.lst xs)) = some xs := (rfl)
@[simp] theorem seqS_tup (M : List D) (xs : List D) : seqS M (.d (.tup xs)) = some xs := (rfl)
@[simp] theorem seqS_scr (M : List D) (xs : List Int) : seqS M (.d (.scr xs)) = some (xs.map .int) := (rfl)
@[simp] theorem seqS_ref (M : List D) (j : Nat) : seqS M (.ref j) = lstD M[j]? := by
  show (match M[j]? with | some (.lst xs) => some xs | _ => none) = _
  cases M[j]? with
  | none => rfl
  | some c => cases c <;> rfl
@[simp] theorem lstS_lst (M : List D) (xs : List D) : lstS M (.d (.lst xs)) = some xs := (rfl)
@[simp] theorem lstS_scr (M : List D) (xs : List Int) : lstS M (.d (.scr xs)) = some (xs.map .int) := (rfl)
@[simp] theorem lstS_ref (M : List D) (j : Nat) : lstS M (.ref j) = lstD M[j]? := by
  show (match M[j]? with | some (.lst xs) => some xs | _ => none) = _
  cases M[j]? with
  | none => rfl
  | some c => cases c <;> rfl
@[simp] theorem items_str (M : List D) (t : Tx) : itemsS M (.d (.str t)) = some (t.map fun c => .str [c]) := (rfl)
@[simp] theorem items_lst (M : List D) (t : List D) : itemsS M (.d (.lst t)) = some t := (rfl)
@[simp] theorem items_tup (M : List D) (t : List D) : itemsS M (.d (.tup t)) = some t := (rfl)
@[simp] theorem items_scr (M : List D) (t : List Int) : itemsS M (.d (.scr t)) = some (t.map .int) := (rfl)
@[simp] theorem ix_str (M : List D) (t : Tx) (i : Int) : ixS M (.d (.str t)) i = (atI t i).map fun c => .str [c] := (rfl)
@[simp] theorem ix_lst (M : List D) (t : List D) (i : Int) : ixS M (.d (.lst t)) i = atI t i := (rfl)
@[simp] theorem ix_tup (M : List D) (t : List D) (i : Int) : ixS M (.d (.tup t)) i = atI t i := (rfl)
@[simp] theorem ix_scr (M : List D) (t : List Int) (i : Int) : ixS M (.d (.scr t)) i = atI (t.map .int) i := (rfl)
@[simp] theorem ix_ref (M : List D) (j : Nat) (i : Int) : ixS M (.ref j) i = (lstD M[j]?).bind fun xs => atI xs i := by
  show (seqS M (.ref j)).bind _ = _
  rw [seqS_ref]
@[simp] theorem intSl_int (i : Int) : intSl (.d (.int i)) = some i := (rfl)
@[simp] theorem blSl_bl (i : Bool) : blSl (.d (.bl i)) = some i := (rfl)
@[simp] theorem datas_nil : datas [] = some [] := (rfl)
@[simp] theorem datas_cons (x : D) (r : List Sl) : datas (.d x :: r) = (datas r).map (x :: ·) := (rfl)
@[simp] theorem intsD_nil : intsD [] = some [] := (rfl)
@[simp] theorem intsD_cons (i : Int) (r : List D) : intsD (.int i :: r) = (intsD r).map (i :: ·) := (rfl)
@[simp] theorem intsD_map (xs : List Int) : intsD (xs.map .int) = some xs := by
  induction xs with
  | nil => rfl
  | cons x xs ih => simp [ih]
@[simp] theorem strsD_nil : strsD [] = some [] := (rfl)
@[simp] theorem strsD_cons (i : Tx) (r : List D) : strsD (.str i :: r) = (strsD r).map (i :: ·) := (rfl)
@[simp] theorem strsD_map (xs : List Tx) : strsD (xs.map .str) = some xs := by
  induction xs with
  | nil => rfl
  | cons x xs ih => simp [ih]
@[simp] theorem blsD_nil : blsD [] = some [] := (rfl)
@[simp] theorem blsD_cons (i : Bool) (r : List D) : blsD (.bl i :: r) = (blsD r).map (i :: ·) := (rfl)
@[simp] theorem len_str (M : List D) (t : Tx) : bltS M .len [.d (.str t)] = some (.int t.length) := (rfl)
@[simp] theorem len_lst (M : List D) (t : List D) : bltS M .len [.d (.lst t)] = some (.int t.length) := (rfl)
@[simp] theorem len_tup (M : List D) (t : List D) : bltS M .len [.d (.tup t)] = some (.int t.length) := (rfl)
@[simp] theorem len_scr (M : List D) (t : List Int) : bltS M .len [.d (.scr t)] = some (.int t.length) := by
  show some (D.int ((t.map D.int).length : Nat)) = _
  rw [List.length_map]
@[simp] theorem len_ref (M : List D) (j : Nat) : bltS M .len [.ref j] = (lstD M[j]?).map fun xs => .int xs.length := by
  show (seqS M (.ref j)).map _ = _
  rw [seqS_ref]
@[simp] theorem int_int (M : List D) (i : Int) : bltS M .int [.d (.int i)] = some (.int i) := (rfl)
@[simp] theorem int_bl (M : List D) (b : Bool) : bltS M .int [.d (.bl b)] = some (.int (if b = true then 1 else 0)) := (rfl)
@[simp] theorem bool_int (M : List D) (i : Int) : bltS M .bool [.d (.int i)] = some (.bl (i != 0)) := (rfl)
@[simp] theorem bool_bl (M : List D) (b : Bool) : bltS M .bool [.d (.bl b)] = some (.bl b) := (rfl)
@[simp] theorem abs_int (M : List D) (i : Int) : bltS M .abs [.d (.int i)] = some (.int (if i < 0 then -i else i)) := (rfl)
@[simp] theorem min_int (M : List D) (i j : Int) : bltS M .min2 [.d (.int i), .d (.int j)] = some (.int (if j < i then j else i)) := (rfl)
@[simp] theorem max_int (M : List D) (i j : Int) : bltS M .max2 [.d (.int i), .d (.int j)] = some (.int (if j > i then j else i)) := (rfl)
@[simp] theorem gcd_int (M : List D) (i j : Int) : bltS M .gcd [.d (.int i), .d (.int j)] = some (.int ((Nat.gcd i.natAbs j.natAbs : Nat) : Int)) := (rfl)
@[simp] theorem sum_s (M : List D) (a : Sl) : bltS M .sum [a] = (seqS M a).bind fun xs => (intsD xs).map fun ns => .int ns.sum := by cases a <;> rfl
@[simp] theorem tuple_s (M : List D) (a : Sl) : bltS M .tuple [a] = (seqS M a).map fun xs => .tup xs := by cases a <;> rfl
@[simp] theorem all_s (M : List D) (xs : List D) : bltS M .all [.d (.lst xs)] = (blsD xs).map fun bs => .bl (bs.all id) := (rfl)
@[simp] theorem any_s (M : List D) (xs : List D) : bltS M .any [.d (.lst xs)] = (blsD xs).map fun bs => .bl (bs.any id) := (rfl)
@[simp] theorem str_int (M : List D) (i : Int) : bltS M .str [.d (.int i)] = if i.natAbs.log2 < 1920 then some (.str (decT i)) else none := (rfl)
@[simp] theorem join_s (M : List D) (sep : Tx) (a : Sl) : bmS M .join (.d (.str sep)) [a] = (seqS M a).bind fun xs => (strsD xs).bind fun ts => if (joinT sep ts).length + sep.length ≤ LN then some (.str (joinT sep ts)) else none := (rfl)
@[simp] theorem mu_append (xs : List D) (v : D) : muS .append xs [.d v] = if xs.length < LN then some (.non, xs ++ [v]) else none := by cases xs <;> rfl
@[simp] theorem mu_pop0 (x : D) (xs : List D) : muS .pop0 (x :: xs) [.d (.int 0)] = some (x, xs) := (rfl)
@[simp] theorem mu_extend (xs ys : List D) : muS .extend xs [.d (.lst ys)] = if xs.length + ys.length ≤ LN then some (.non, xs ++ ys) else none := by cases xs <;> rfl
@[simp] theorem revD_str (t : Tx) : revD (.d (.str t)) = some (.str t.reverse) := (rfl)
@[simp] theorem revD_tup (t : List D) : revD (.d (.tup t)) = some (.tup t.reverse) := (rfl)
@[simp] theorem revT_str (t : Tx) : revT (.d (.str t)) = some (t.reverse.map fun c => .str [c]) := (rfl)
@[simp] theorem revI_lst (t : List D) : revI (.d (.lst t)) = some t.reverse := (rfl)
@[simp] theorem revI_tup (t : List D) : revI (.d (.tup t)) = some t.reverse := (rfl)
@[simp] theorem revI_scr (t : List Int) : revI (.d (.scr t)) = some (t.reverse.map .int) := (rfl)
@[simp] theorem mu_popl (xs : List D) : muS .popl xs [] = (xs[xs.length - 1]?).map fun x => (x, xs.dropLast) := by cases xs <;> rfl
@[simp] theorem isi_non (tb : Tb) (M : List D) (t : Ty) : isiS tb M (.d .non) t = some (isTag tb .non t) := (rfl)
@[simp] theorem isi_int (tb : Tb) (M : List D) (i : Int) (t : Ty) : isiS tb M (.d (.int i)) t = some (isTag tb .int t) := (rfl)
@[simp] theorem isi_bl (tb : Tb) (M : List D) (i : Bool) (t : Ty) : isiS tb M (.d (.bl i)) t = some (isTag tb .bool t) := (rfl)
@[simp] theorem isi_str (tb : Tb) (M : List D) (i : Tx) (t : Ty) : isiS tb M (.d (.str i)) t = some (isTag tb .str t) := (rfl)
@[simp] theorem isi_lst (tb : Tb) (M : List D) (i : List D) (t : Ty) : isiS tb M (.d (.lst i)) t = some (isTag tb .list t) := (rfl)
@[simp] theorem isi_tup (tb : Tb) (M : List D) (i : List D) (t : Ty) : isiS tb M (.d (.tup i)) t = some (isTag tb .tuple t) := (rfl)
@[simp] theorem isi_obj (tb : Tb) (M : List D) (c : Nat) (i : List D) (t : Ty) : isiS tb M (.d (.obj c i)) t = if c < tb.cls.length ∧ tb.isExc c = false then some (isTag tb (.cls c) t) else none := (rfl)
@[simp] theorem isi_exn (tb : Tb) (M : List D) (c : Nat) (i : List D) (t : Ty) : isiS tb M (.exn c i) t = if c < tb.cls.length ∧ tb.isExc c = true then some (isTag tb (.cls c) t) else none := (rfl)
@[simp] theorem tg_cls (tb : Tb) (c k : Nat) : isTag tb (.cls c) (.cls k) = tb.isSub c k := (rfl)
@[simp] theorem tg_bb (tb : Tb) : isTag tb .bool .bool = true := (rfl)
@[simp] theorem tg_bi (tb : Tb) : isTag tb .bool .int = true := (rfl)
@[simp] theorem tg_ii (tb : Tb) : isTag tb .int .int = true := (rfl)
@[simp] theorem tg_ib (tb : Tb) : isTag tb .int .bool = false := (rfl)
@[simp] theorem tg_is (tb : Tb) : isTag tb .int .str = false := (rfl)
@[simp] theorem tg_ss (tb : Tb) : isTag tb .str .str = true := (rfl)
@[simp] theorem tg_si (tb : Tb) : isTag tb .str .int = false := (rfl)
@[simp] theorem tg_tt (tb : Tb) : isTag tb .tuple .tuple = true := (rfl)
@[simp] theorem tg_ll (tb : Tb) : isTag tb .list .list = true := (rfl)
@[simp] theorem tru_bl (M : List D) (b : Bool) : truS M (.d (.bl b)) = some b := (rfl)
@[simp] theorem tru_int (M : List D) (b : Int) : truS M (.d (.int b)) = some (b != 0) := (rfl)
@[simp] theorem tru_str (M : List D) (t : Tx) : truS M (.d (.str t)) = some (t.length != 0) := (rfl)
@[simp] theorem tru_non (M : List D) : truS M (.d .non) = some false := (rfl)
@[simp] theorem tru_lst (M : List D) (t : List D) : truS M (.d (.lst t)) = some (!t.isEmpty) := (rfl)
@[simp] theorem tru_tup (M : List D) (t : List D) : truS M (.d (.tup t)) = some (!t.isEmpty) := (rfl)
@[simp] theorem tru_ref (M : List D) (j : Nat) : truS M (.ref j) = (lstD M[j]?).map fun xs => !xs.isEmpty := by
  show (seqS M (.ref j)).map _ = _
  rw [seqS_ref]
/-! calls -/
@[simp] theorem refs_nil : refsOf [] = [] := (rfl)
@[simp] theorem refs_d (x : D) (r : List Sl) : refsOf (.d x :: r) = refsOf r := (rfl)
@[simp] theorem refs_ref (j : Nat) (r : List Sl) : refsOf (.ref j :: r) = j :: refsOf r := (rfl)
@[simp] theorem ren_nil (n : Nat) : renum n [] = [] := (rfl)
@[simp] theorem ren_d (n : Nat) (x : D) (r : List Sl) : renum n (.d x :: r) = .d x :: renum n r := (rfl)
@[simp] theorem ren_ref (n j : Nat) (r : List Sl) : renum n (.ref j :: r) = .ref n :: renum (n + 1) r := (rfl)
@[simp] theorem noExn_nil : noExn [] = true := (rfl)
@[simp] theorem noExn_d (x : D) (r : List Sl) : noExn (.d x :: r) = noExn r := (rfl)
@[simp] theorem noExn_ref (j : Nat) (r : List Sl) : noExn (.ref j :: r) = noExn r := (rfl)
@[simp] theorem getAll_nil (M : List D) : getAll M [] = some [] := (rfl)
@[simp] theorem getAll_cons (M : List D) (j : Nat) (r : List Nat) : getAll M (j :: r) = M[j]?.bind fun m => (getAll M r).map (m :: ·) := by
  rw [getAll]
  cases M[j]? with
  | none => rfl
  | some m => cases getAll M r <;> rfl
@[simp] theorem setAll_nil (M ms : List D) : setAll M [] ms = M := by rw [setAll]; simp
@[simp] theorem setAll_cons (M : List D) (j : Nat) (r : List Nat) (m : D) (ms : List D) : setAll M (j :: r) (m :: ms) = setAll (M.set j m) r ms := by rw [setAll]
def rfR (ρ : List (Option Sl)) (M : List D) (js : List Nat) : RF → R Rv
  | .ret v ms => .ok v ⟨ρ, setAll M js ms⟩
  | .exc c fs ms => .exc c fs ⟨ρ, setAll M js ms⟩
  | .stuck => .stuck
@[simp] theorem rfR_ret (ρ : List (Option Sl)) (M : List D) (js : List Nat) (v : Rv) (ms : List D) : rfR ρ M js (.ret v ms) = .ok v ⟨ρ, setAll M js ms⟩ := (rfl)
@[simp] theorem rfR_exc (ρ : List (Option Sl)) (M : List D) (js : List Nat) (c : Nat) (fs : List D) (ms : List D) : rfR ρ M js (.exc c fs ms) = .exc c fs ⟨ρ, setAll M js ms⟩ := (rfl)
@[simp] theorem callF_mk (φ : FM) (as : List Sl) (ρ : List (Option Sl)) (M : List D) : callF φ as ⟨ρ, M⟩ = kO (getAll M (refsOf as)) fun ms => if (refsOf as).Nodup ∧ noExn as = true then rfR ρ M (refsOf as) (φ (renum 0 as) ms) else .stuck := by
  simp only [callF]
  cases getAll M (refsOf as) with
  | none => rfl
  | some ms =>
    simp only [kO_some]
    congr
@[simp] theorem rvSl_d (x : D) : rvSl (.d x) = .d x := (rfl)
@[simp] theorem rvSl_new (x : List D) : rvSl (.new x) = .d (.lst x) := (rfl)
@[simp] theorem rvNew_new (x : List D) : rvNew (.new x) = some x := (rfl)
/-! loops -/
@[simp] theorem forGo_nil (bind : Sl → S → R Unit) (body : S → R Flow) (fg : List Nat) (n : Nat) (s : S) : forGo bind body fg n [] s = .ok .next s := (rfl)
@[simp] theorem forGo_cons (bind : Sl → S → R Unit) (body : S → R Flow) (fg : List Nat) (n : Nat) (x : Sl) (xs : List Sl) (s : S) : forGo bind body fg n (x :: xs) s = (bind x s).bind fun _ s1 => turn fg n (body s1) (forGo bind body fg n xs) := (rfl)
@[simp] theorem turn_next (fg : List Nat) (n : Nat) (ρ : List (Option Sl)) (M : List D) (k : S → R Flow) : turn fg n (.ok .next ⟨ρ, M⟩) k = if n ≤ M.length ∧ belowS n (forget fg ρ) = true then k ⟨forget fg ρ, M.take n⟩ else .stuck := (rfl)
@[simp] theorem turn_cont (fg : List Nat) (n : Nat) (ρ : List (Option Sl)) (M : List D) (k : S → R Flow) : turn fg n (.ok .cont ⟨ρ, M⟩) k = if n ≤ M.length ∧ belowS n (forget fg ρ) = true then k ⟨forget fg ρ, M.take n⟩ else .stuck := (rfl)
@[simp] theorem turn_brk (fg : List Nat) (n : Nat) (ρ : List (Option Sl)) (M : List D) (k : S → R Flow) : turn fg n (.ok .brk ⟨ρ, M⟩) k = if n ≤ M.length ∧ belowS n (forget fg ρ) = true then .ok .next ⟨forget fg ρ, M.take n⟩ else .stuck := (rfl)
@[simp] theorem turn_ret (fg : List Nat) (n : Nat) (s : S) (v : Rv) (k : S → R Flow) : turn fg n (.ok (.ret v) s) k = .ok (.ret v) s := (rfl)
@[simp] theorem turn_exc (fg : List Nat) (n : Nat) (s : S) (c : Nat) (fs : List D) (k : S → R Flow) : turn fg n (.exc c fs s) k = .exc c fs s := (rfl)
@[simp] theorem clean_mk (fg : List Nat) (n : Nat) (ρ : List (Option Sl)) (M : List D) : clean fg n ⟨ρ, M⟩ = ⟨forget fg ρ, M.take n⟩ := (rfl)
@[simp] theorem forget_nil (ρ : List (Option Sl)) : forget [] ρ = ρ := (rfl)
@[simp] theorem forget_cons (i : Nat) (is : List Nat) (ρ : List (Option Sl)) : forget (i :: is) ρ = forget is (ρ.set i none) := (rfl)
@[simp] theorem setOne_d (i : Nat) (x : D) (ρ : List (Option Sl)) (M : List D) : setOne i (.d x) ⟨ρ, M⟩ = if i < ρ.length then .ok () ⟨ρ.set i (some (.d x)), M⟩ else .stuck := (rfl)
@[simp] theorem setOne_ref (i : Nat) (x : Nat) (ρ : List (Option Sl)) (M : List D) : setOne i (.ref x) ⟨ρ, M⟩ = if i < ρ.length then .ok () ⟨ρ.set i (some (.ref x)), M⟩ else .stuck := (rfl)
@[simp] theorem setTwo_tup (i j : Nat) (a b : D) (ρ : List (Option Sl)) (M : List D) : setTwo i j (.d (.tup [a, b])) ⟨ρ, M⟩ = if i < ρ.length ∧ j < ρ.length then .ok () ⟨(ρ.set i (some (.d a))).set j (some (.d b)), M⟩ else .stuck := (rfl)
@[simp] theorem below_nil (n : Nat) : belowS n [] = true := (rfl)
@[simp] theorem below_none (n : Nat) (r : List (Option Sl)) : belowS n (none :: r) = belowS n r := (rfl)
@[simp] theorem below_d (n : Nat) (x : D) (r : List (Option Sl)) : belowS n (some (.d x) :: r) = belowS n r := (rfl)
@[simp] theorem below_ref (n j : Nat) (r : List (Option Sl)) : belowS n (some (.ref j) :: r) = (decide (j < n) && belowS n r) := (rfl)
@[simp] theorem below_sd (n : Nat) (o : Option D) (r : List (Option Sl)) : belowS n (o.map Sl.d :: r) = belowS n r := by cases o <;> rfl
@[simp] theorem noRef_nil (n : Nat) : noRef n [] = true := (rfl)
@[simp] theorem noRef_none (n : Nat) (r : List (Option Sl)) : noRef n (none :: r) = noRef n r := (rfl)
@[simp] theorem noRef_d (n : Nat) (x : D) (r : List (Option Sl)) : noRef n (some (.d x) :: r) = noRef n r := (rfl)
@[simp] theorem noRef_ref (n j : Nat) (r : List (Option Sl)) : noRef n (some (.ref j) :: r) = (decide (j ≠ n) && noRef n r) := (rfl)
@[simp] theorem noRef_sd (n : Nat) (o : Option D) (r : List (Option Sl)) : noRef n (o.map Sl.d :: r) = noRef n r := by cases o <;> rfl
@[simp] theorem noEx_nil : noEx [] = true := (rfl)
@[simp] theorem noEx_none (r : List (Option Sl)) : noEx (none :: r) = noEx r := (rfl)
@[simp] theorem noEx_d (x : D) (r : List (Option Sl)) : noEx (some (.d x) :: r) = noEx r := (rfl)
@[simp] theorem noEx_ref (j : Nat) (r : List (Option Sl)) : noEx (some (.ref j) :: r) = noEx r := (rfl)
@[simp] theorem noEx_sd (o : Option D) (r : List (Option Sl)) : noEx (o.map Sl.d :: r) = noEx r := by cases o <;> rfl
@[simp] theorem enum_nil (n : Nat) : enumL n [] = [] := (rfl)
@[simp] theorem enum_cons (n : Nat) (x : D) (xs : List D) : enumL n (x :: xs) = .tup [.int n, x] :: enumL (n + 1) xs := (rfl)
@[simp] theorem putMany_nil (s : S) : putMany [] [] s = some s := (rfl)
@[simp] theorem putMany_cons (i : Nat) (is : List Nat) (x : D) (xs : List D) (ρ : List (Option Sl)) (M : List D) : putMany (i :: is) (x :: xs) ⟨ρ, M⟩ = if i < ρ.length then putMany is xs ⟨ρ.set i (some (.d x)), M⟩ else none := (rfl)
@[simp] theorem while_succ (t : S → R Bool) (body : S → R Flow) (fg : List Nat) (n m : Nat) (s : S) : whileGo t body fg n (m + 1) s = (t s).bind fun c s1 => if c = true then turn fg n (body s1) (whileGo t body fg n m) else .ok .next s1 := by
  rw [whileGo]
  congr; funext c s; cases c <;> rfl
/-- one item of a comprehension -/
def cgE : R Sl → (D → S → R (List D)) → R (List D)
  | .ok (.d y) s2, f => f y s2
  | _, _ => .stuck
@[simp] theorem cgE_ok (y : D) (s : S) (f : D → S → R (List D)) : cgE (.ok (.d y) s) f = f y s := (rfl)
@[simp] theorem comp_nil (t : S → R Bool) (e : S → R Sl) (i : Nat) (σ0 : List (Option Sl)) (acc : List D) (s : S) : compGo t e i σ0 [] acc s = .ok acc ⟨σ0, s.M⟩ := (rfl)
@[simp] theorem comp0_cons (e : S → R Sl) (i : Nat) (σ0 : List (Option Sl)) (x : D) (xs acc : List D) (s : S) : compGo (fun s => .ok true s) e i σ0 (x :: xs) acc s = cgE (e ⟨σ0.set i (some (.d x)), s.M⟩) fun y s2 => if acc.length < LN then compGo (fun s => .ok true s) e i σ0 xs (acc ++ [y]) s2 else .stuck := by
  rw [compGo]
  simp only [cgE]
  split <;> split <;> simp_all
def cgT : R Bool → (S → R (List D)) → (S → R (List D)) → R (List D)
  | .ok true s1, f, g => f s1
  | .ok false s1, f, g => g s1
  | _, _, _ => .stuck
@[simp] theorem cgT_ok (b : Bool) (s : S) (f g : S → R (List D)) : cgT (.ok b s) f g = if b = true then f s else g s := by cases b <;> rfl
theorem comp_cons (t : S → R Bool) (e : S → R Sl) (i : Nat) (σ0 : List (Option Sl)) (x : D) (xs acc : List D) (s : S) : compGo t e i σ0 (x :: xs) acc s = cgT (t ⟨σ0.set i (some (.d x)), s.M⟩) (fun s1 => cgE (e s1) fun y s2 => if acc.length < LN then compGo t e i σ0 xs (acc ++ [y]) s2 else .stuck) (fun s1 => compGo t e i σ0 xs acc s1) := by
  rw [compGo]
  cases t ⟨σ0.set i (some (.d x)), s.M⟩ with
  | ok b s1 =>
    cases b with
    | true =>
      simp only [cgT, cgE]
      split <;> split <;> simp_all
    | false => rfl
  | _ => rfl
/-- a comprehension that changes nothing -/
theorem comp_map {e : S → R Sl} {i : Nat} {σ0 : List (Option Sl)} {M : List D} (f : D → D) : ∀ (xs acc : List D), (∀ x ∈ xs, ∃ ρ, e ⟨σ0.set i (some (.d x)), M⟩ = .ok (.d (f x)) ⟨ρ, M⟩) → acc.length + xs.length ≤ LN →
    ∀ ρ0, compGo (fun s => .ok true s) e i σ0 xs acc ⟨ρ0, M⟩ = .ok (acc ++ xs.map f) ⟨σ0, M⟩
  | [], acc, _, _, ρ0 => by simp
  | x :: xs, acc, h, hl, ρ0 => by
    obtain ⟨ρ, e1⟩ := h x (by simp)
    have hl' : acc.length < LN := by simp at hl; omega
    rw [comp0_cons, e1, cgE_ok, if_pos hl', comp_map f xs (acc ++ [f x]) (fun y hy => h y (by simp [hy])) (by simp at hl ⊢; omega) ρ]
    simp
/-! functions -/
def rfE (n : Nat) : R Flow → RF
  | .ok .next s => .ret (.d .non) (s.M.take n)
  | .ok (.ret v) s => .ret v (s.M.take n)
  | .exc c fs s => .exc c fs (s.M.take n)
  | _ => .stuck
@[simp] theorem rfE_next (n : Nat) (s : S) : rfE n (.ok .next s) = .ret (.d .non) (s.M.take n) := (rfl)
@[simp] theorem rfE_ret (n : Nat) (v : Rv) (s : S) : rfE n (.ok (.ret v) s) = .ret v (s.M.take n) := (rfl)
@[simp] theorem rfE_exc (n c : Nat) (fs : List D) (s : S) : rfE n (.exc c fs s) = .exc c fs (s.M.take n) := (rfl)
@[simp] theorem runF_mk (tb : Tb) (Φ : Nat → FM) (k : Nat) (b : Bl) (as : List Sl) (M : List D) : runF tb Φ ⟨k, b⟩ as M = rfE M.length (evB tb Φ M.length b ⟨as.map some ++ List.replicate (k - as.length) none, M⟩) := by
  simp only [runF]
  cases evB tb Φ M.length b ⟨as.map some ++ List.replicate (k - as.length) none, M⟩ with
  | ok f s => cases f <;> rfl
  | _ => rfl
/-! places -/
@[simp] theorem atI_zero {α : Type} (xs : List α) : atI xs 0 = xs[0]? := by
  cases xs with
  | nil => rfl
  | cons x xs =>
    have : (0 : Int) < ((x :: xs).length : Nat) := by simp
    simp [atI, ixN, this]
theorem atI_nat {α : Type} (xs : List α) (k : Nat) : atI xs (k : Int) = xs[k]? := by
  unfold atI ixN
  by_cases h : k < xs.length
  · have : (k : Int) < (xs.length : Nat) := by omega
    simp [this]
  · have h1 : ¬ (k : Int) < (xs.length : Nat) := by omega
    have h2 : (0 : Int) ≤ k := by omega
    simp [h1, h2]
    omega
@[simp] theorem atI_one {α : Type} (xs : List α) : atI xs 1 = xs[1]? := atI_nat xs 1
@[simp] theorem atI_two {α : Type} (xs : List α) : atI xs 2 = xs[2]? := atI_nat xs 2
theorem atI_of {α : Type} (xs : List α) (i : Int) (h : 0 ≤ i) : atI xs i = xs[i.toNat]? := by
  have := atI_nat xs i.toNat
  rwa [Int.toNat_of_nonneg h] at this
@[simp] theorem atI_last {α : Type} (xs : List α) (x : α) : atI (xs ++ [x]) (-1) = some x := by
  unfold atI ixN
  have h : -(((xs ++ [x]).length : Nat) : Int) ≤ -1 := by simp; omega
  have h2 : ((-1 : Int) + ((xs ++ [x]).length : Nat)).toNat = xs.length := by simp; omega
  simp only [show ¬ (0 : Int) ≤ -1 by decide, if_false, h, if_true, Option.bind_some, h2]
  simp
theorem ixN_nat (n k : Nat) (h : k < n) : ixN n (k : Int) = some k := by
  unfold ixN
  have : (k : Int) < (n : Nat) := by omega
  simp [this]
theorem ixN_of (n : Nat) (i : Int) (h : 0 ≤ i) (h2 : i < n) : ixN n i = some i.toNat := by
  unfold ixN
  simp [h, h2]
theorem ixN_neg1 (n : Nat) (h : 0 < n) : ixN n (-1) = some (n - 1) := by
  unfold ixN
  simp only [show ¬ (0 : Int) ≤ -1 by decide, if_false, show -(n : Int) ≤ -1 by omega, if_true]
  congr 1; omega
@[simp] theorem ixN_zero (n : Nat) : ixN (n + 1) 0 = some 0 := ixN_nat (n + 1) 0 (by omega)
theorem cut_pre {α : Type} (xs : List α) (i : Int) (h : 0 ≤ i) : cut xs none (some i) = xs.take i.toNat := by
  unfold cut sIx
  simp [show ¬ i < 0 by omega]
  by_cases hl : i ≤ (xs.length : Int)
  · rw [show min i (xs.length : Int) = i by omega]
  · rw [show min i (xs.length : Int) = (xs.length : Int) by omega]
    omega
theorem cut_suf {α : Type} (xs : List α) (i : Int) (h : 0 ≤ i) : cut xs (some i) none = xs.drop i.toNat := by
  unfold cut sIx
  simp [show ¬ i < 0 by omega]
  by_cases hl : i ≤ (xs.length : Int)
  · rw [show min i (xs.length : Int) = i by omega]
    rw [List.take_of_length_le (by simp)]
  · rw [show min i (xs.length : Int) = (xs.length : Int) by omega]
    rw [List.drop_of_length_le (by omega), List.drop_of_length_le (by omega)]
    simp
@[simp] theorem cut_all {α : Type} (xs : List α) : cut xs none none = xs := by
  simp [cut, sIx]
@[simp] theorem cut_but1 {α : Type} (xs : List α) : cut xs none (some (-1)) = xs.dropLast := by
  unfold cut sIx
  simp [List.dropLast_eq_take]
  congr 1
  omega
end GF

set_option linter.all false
set_option maxRecDepth 100000
namespace GF
/-! ### symbolic runs: instances -/
@[simp] theorem objS_d (M : List D) (c : Nat) (fs : List D) : objS M (.d (.obj c fs)) = some (c, fs) := (rfl)
def objD : Option D → Option (Nat × List D)
  | some (.obj c fs) => some (c, fs)
  | _ => none
@[simp] theorem objD_some (c : Nat) (fs : List D) : objD (some (.obj c fs)) = some (c, fs) := (rfl)
@[simp] theorem objS_ref (M : List D) (j : Nat) : objS M (.ref j) = objD M[j]? := by
  show (match M[j]? with | some (.obj c fs) => some (c, fs) | _ => none) = _
  cases M[j]? with
  | none => rfl
  | some c => cases c <;> rfl
@[simp] theorem lenA_nil : lenA .nil = 0 := (rfl)
@[simp] theorem lenA_cons (e : E) (as : As) : lenA (.cons e as) = lenA as + 1 := (rfl)
section
variable (tb : Tb) (Φ : Nat → FM)
@[simp] theorem eFld (a : E) (x : String) (s : S) : evE tb Φ (.fld a x) s = (evE tb Φ a s).bind fun v s => kO (objS s.M v) fun p => optR ((tb.fix p.1 x).bind fun i => p.2[i]?) s .d := by
  rw [evE]
  congr; funext v s
  cases objS s.M v with
  | none => rfl
  | some p => rfl
@[simp] theorem eMeth (a : E) (m : String) (ks : List String) (as bs : As) (s : S) : evE tb Φ (.meth a m ks as bs) s = (evE tb Φ a s).bind fun x s => kO (objS s.M x) fun p => kO (tb.mq p.1 m (lenA as) ks) fun q =>
    (evA tb Φ as s).bind fun vs s => (evA tb Φ bs s).bind fun ws s => (callF (Φ q.f) (permute q.perm (x :: (vs ++ (ws ++ q.dfl.map .d)))) s).bind fun v s => .ok (rvSl v) s := by
  rw [evE]
  congr; funext v s
  cases objS s.M v with
  | none => rfl
  | some p =>
    obtain ⟨c, fs⟩ := p
    simp only [kO_some]
    cases tb.mq c m (lenA as) ks <;> rfl
@[simp] theorem eMake (c : Nat) (ks : List String) (as bs : As) (s : S) : evE tb Φ (.make c ks as bs) s = kO (tb.mq c "__init__" (lenA as) ks) fun q =>
    (evA tb Φ as s).bind fun vs s => (evA tb Φ bs s).bind fun ws s => makeF tb (Φ q.f) c (fun z => permute q.perm (z :: (vs ++ (ws ++ q.dfl.map .d)))) s := by
  rw [evE]
  cases tb.mq c "__init__" (lenA as) ks <;> rfl
def obF (tb : Tb) (Φ : Nat → FM) (m : String) (x y : Sl) (s : S) : R Sl := match x, y with
  | .d (.obj c fs), .d (.obj c' gs) => kO (tb.mq c m 1 []) fun q => if c = c' then (callF (Φ q.f) (permute q.perm (.d (.obj c fs) :: .d (.obj c' gs) :: q.dfl.map .d)) s).bind fun v s => .ok (rvSl v) s else .stuck
  | _, _ => .stuck
@[simp] theorem obF_obj (m : String) (c c' : Nat) (fs gs : List D) (s : S) : obF tb Φ m (.d (.obj c fs)) (.d (.obj c' gs)) s = kO (tb.mq c m 1 []) fun q => if c = c' then (callF (Φ q.f) (permute q.perm (.d (.obj c fs) :: .d (.obj c' gs) :: q.dfl.map .d)) s).bind fun v s => .ok (rvSl v) s else .stuck := (rfl)
@[simp] theorem bopM_add : bopM .add = "__add__" := (rfl)
@[simp] theorem bopM_sub : bopM .sub = "__sub__" := (rfl)
@[simp] theorem bopM_mul : bopM .mul = "__mul__" := (rfl)
@[simp] theorem eOb (o : Bop) (a b : E) (s : S) : evE tb Φ (.ob o a b) s = (evE tb Φ a s).bind fun x s => (evE tb Φ b s).bind fun y s => obF tb Φ (bopM o) x y s := by
  rw [evE]
  congr; funext x s; congr; funext y s
  cases x with
  | d x =>
    cases x with
    | obj c fs =>
      cases y with
      | d y =>
        cases y with
        | obj c' gs =>
          rw [obF_obj]
          simp only
          cases tb.mq c (bopM o) 1 [] <;> rfl
        | _ => rfl
      | _ => rfl
    | _ => rfl
  | _ => rfl
def onF (tb : Tb) (Φ : Nat → FM) (x : Sl) (s : S) : R Sl := match x with
  | .d (.obj c fs) => kO (tb.mq c "__neg__" 0 []) fun q => (callF (Φ q.f) (permute q.perm (.d (.obj c fs) :: q.dfl.map .d)) s).bind fun v s => .ok (rvSl v) s
  | _ => .stuck
@[simp] theorem onF_obj (c : Nat) (fs : List D) (s : S) : onF tb Φ (.d (.obj c fs)) s = kO (tb.mq c "__neg__" 0 []) fun q => (callF (Φ q.f) (permute q.perm (.d (.obj c fs) :: q.dfl.map .d)) s).bind fun v s => .ok (rvSl v) s := (rfl)
@[simp] theorem eOneg (a : E) (s : S) : evE tb Φ (.oneg a) s = (evE tb Φ a s).bind fun x s => onF tb Φ x s := by
  rw [evE]
  congr; funext x s
  cases x with
  | d x =>
    cases x with
    | obj c fs =>
      rw [onF_obj]
      simp only
      cases tb.mq c "__neg__" 0 [] <;> rfl
    | _ => rfl
  | _ => rfl
def oqF (tb : Tb) (Φ : Nat → FM) (x y : Sl) (s : S) : R Sl := match x, y with
  | .d (.obj c fs), .d (.obj c' gs) => kO (tb.mq c "__eq__" 1 []) fun q => if c' < tb.cls.length ∧ tb.isExc c' = false then (callF (Φ q.f) (permute q.perm (.d (.obj c fs) :: .d (.obj c' gs) :: q.dfl.map .d)) s).bind fun v s => .ok (rvSl v) s else .stuck
  | _, _ => .stuck
@[simp] theorem oqF_obj (c c' : Nat) (fs gs : List D) (s : S) : oqF tb Φ (.d (.obj c fs)) (.d (.obj c' gs)) s = kO (tb.mq c "__eq__" 1 []) fun q => if c' < tb.cls.length ∧ tb.isExc c' = false then (callF (Φ q.f) (permute q.perm (.d (.obj c fs) :: .d (.obj c' gs) :: q.dfl.map .d)) s).bind fun v s => .ok (rvSl v) s else .stuck := (rfl)
@[simp] theorem eOeq (a b : E) (s : S) : evE tb Φ (.oeq a b) s = (evE tb Φ a s).bind fun x s => (evE tb Φ b s).bind fun y s => oqF tb Φ x y s := by
  rw [evE]
  congr; funext x s; congr; funext y s
  cases x with
  | d x =>
    cases x with
    | obj c fs =>
      cases y with
      | d y =>
        cases y with
        | obj c' gs =>
          rw [oqF_obj]
          simp only
          cases tb.mq c "__eq__" 1 [] <;> rfl
        | _ => rfl
      | _ => rfl
    | _ => rfl
  | _ => rfl
@[simp] theorem sSetfld (b0 i : Nat) (x : String) (e : E) (s : S) : evS tb Φ b0 (.setfld i x e) s = (evE tb Φ e s).bind fun v s => kO (dSl v) fun d => kO (refSl (s.get i)) fun j => kO (objD s.M[j]?) fun p => kO (tb.fix p.1 x) fun k => if k = p.2.length ∧ k < 900 then .ok .next ⟨s.ρ, s.M.set j (.obj p.1 (p.2 ++ [d]))⟩ else .stuck := by
  rw [evS]
  congr; funext v s
  cases v with
  | d d =>
    cases s.get i with
    | none => rfl
    | some w =>
      cases w with
      | ref j =>
        show (match s.M[j]? with | some (.obj c fs) => _ | _ => _) = _
        simp only [dSl_d, kO_some, refSl_ref]
        cases s.M[j]? with
        | none => rfl
        | some m =>
          cases m with
          | obj c fs =>
            simp only [objD_some, kO_some]
            cases tb.fix c x <;> rfl
          | _ => rfl
      | _ => rfl
  | _ => rfl
@[simp] theorem sPar3 (b0 i j l : Nat) (a b d : E) (s : S) : evS tb Φ b0 (.par3 i j l a b d) s = (evE tb Φ a s).bind fun x s => (evE tb Φ b s).bind fun y s => (evE tb Φ d s).bind fun z s => kO (dSl x) fun x => kO (dSl y) fun y => kO (dSl z) fun z =>
    if i < s.ρ.length ∧ j < s.ρ.length ∧ l < s.ρ.length then .ok .next (((s.put i (.d x)).put j (.d y)).put l (.d z)) else .stuck := by
  rw [evS]
  congr; funext x s; congr; funext y s; congr; funext z s
  cases x <;> cases y <;> cases z <;> rfl
@[simp] theorem nCompC (i src : Nat) (e : E) (s : S) : evN tb Φ (.compC i src e) s = kO (refSl (s.get src)) fun j => kO (lstD s.M[j]?) fun xs => if i < s.ρ.length then compGoC (evE tb Φ e) i j xs (s.ρ.set i none) xs [] s else .stuck := by
  rw [evN]
  cases s.get src with
  | none => rfl
  | some v =>
    cases v with
    | ref j =>
      simp only [refSl_ref, kO_some]
      cases s.M[j]? with
      | none => rfl
      | some m => cases m <;> rfl
    | _ => rfl
@[simp] theorem bm_rstrip (M : List D) (t cs : Tx) : bmS M .rstrip1 (.d (.str t)) [.d (.str cs)] = some (.str (rstripT t cs)) := (rfl)
end
theorem patF_mk {tb : Tb} {Φ : Nat → FM} {p : Nat} {vs ws : List Sl} {s : S} {q : Pat} (h : tb.pats[p]? = some q) : patF tb Φ p vs ws s = (callF (Φ q.f) (permute q.perm (vs ++ (ws ++ q.dfl.map .d))) s).bind fun v s => .ok (rvSl v) s := by
  unfold patF; rw [h]
@[simp] theorem isi_objC (tb : Tb) (M : List D) (c k : Nat) (fs : List D) : isiS tb M (.d (.obj c fs)) (.cls k) = if c < tb.cls.length ∧ tb.isExc c = false then some (tb.isSub c k) else none := (rfl)
theorem keeps_self {j : Nat} {all M : List D} (h : M[j]? = some (.lst all)) : keeps j all M = true := by
  unfold keeps
  rw [h]
  exact sameL_refl all
theorem compC_nil (e : S → R Sl) (i j : Nat) (all : List D) (σ0 : List (Option Sl)) (acc : List D) (s : S) (h : s.M[j]? = some (.lst all)) : compGoC e i j all σ0 [] acc s = .ok acc ⟨σ0, s.M⟩ := by
  rw [compGoC, keeps_self h]; rfl
theorem compC_cons (e : S → R Sl) (i j : Nat) (all : List D) (σ0 : List (Option Sl)) (x y : D) (xs acc : List D) (s s2 : S) (h : s.M[j]? = some (.lst all)) (he : e ⟨σ0.set i (some (.d x)), s.M⟩ = .ok (.d y) s2) (hl : acc.length < LN) :
    compGoC e i j all σ0 (x :: xs) acc s = compGoC e i j all σ0 xs (acc ++ [y]) s2 := by
  rw [compGoC, keeps_self h, he]
  simp [hl]
theorem renum_d : ∀ (n : Nat) (xs : List Sl), refsOf xs = [] → renum n xs = xs
  | _, [], _ => rfl
  | n, .d x :: r, h => by
    have h' : refsOf r = [] := h
    show Sl.d x :: renum n r = _
    rw [renum_d n r h']
  | n, .ref j :: r, h => by cases h
  | n, .exn c fs :: r, h => by
    have h' : refsOf r = [] := h
    show Sl.exn c fs :: renum n r = _
    rw [renum_d n r h']
/-- an instance of data is made -/
theorem makeF_d {tb : Tb} {φ : FM} {c : Nat} {g : Sl → List Sl} {xs : List Sl} {fs : List D} (s : S) (hg : ∀ z, g z = z :: xs) (hr : refsOf xs = []) (hx : noExn xs = true) (hφ : φ (.ref 0 :: xs) [.obj c []] = .ret (.d .non) [.obj c fs]) (ha : arity tb c = some fs.length) (he : tb.isExc c = false) :
    makeF tb φ c g s = .ok (.d (.obj c fs)) s := by
  have e1 : refsOf (.ref s.M.length :: xs) = [s.M.length] := by show s.M.length :: refsOf xs = _; rw [hr]
  have e2 : renum 0 (.ref s.M.length :: xs) = .ref 0 :: xs := by show Sl.ref 0 :: renum 1 xs = _; rw [renum_d 1 xs hr]
  have e3 : noExn (.ref s.M.length :: xs) = true := hx
  unfold makeF
  rw [hg]
  have e4 : callF φ (.ref s.M.length :: xs) ⟨s.ρ, s.M ++ [.obj c []]⟩ = .ok (.d .non) ⟨s.ρ, s.M ++ [.obj c fs]⟩ := by
    unfold callF
    rw [e1]
    simp [getAll, e2, e3, hφ, setAll]
  rw [e4]
  simp only [List.getElem?_concat_length]
  unfold arity at ha
  obtain ⟨i, hi, hl⟩ := Option.map_eq_some_iff.mp ha
  have hex : i.exc = false := by
    have : tb.isExc c = i.exc := by unfold Tb.isExc; rw [hi]; rfl
    rw [← this]; exact he
  simp [hi, hl, hex]
/-- __init__ raises -/
theorem makeF_exc {tb : Tb} {φ : FM} {c k : Nat} {g : Sl → List Sl} {xs : List Sl} {fs gs : List D} (s : S) (hg : ∀ z, g z = z :: xs) (hr : refsOf xs = []) (hx : noExn xs = true) (hφ : φ (.ref 0 :: xs) [.obj c []] = .exc k gs [.obj c fs]) :
    makeF tb φ c g s = .exc k gs s := by
  have e1 : refsOf (.ref s.M.length :: xs) = [s.M.length] := by show s.M.length :: refsOf xs = _; rw [hr]
  have e2 : renum 0 (.ref s.M.length :: xs) = .ref 0 :: xs := by show Sl.ref 0 :: renum 1 xs = _; rw [renum_d 1 xs hr]
  have e3 : noExn (.ref s.M.length :: xs) = true := hx
  unfold makeF
  rw [hg]
  have e4 : callF φ (.ref s.M.length :: xs) ⟨s.ρ, s.M ++ [.obj c []]⟩ = .exc k gs ⟨s.ρ, s.M ++ [.obj c fs]⟩ := by
    unfold callF
    rw [e1]
    simp [getAll, e2, e3, hφ, setAll]
  rw [e4]
  simp
end GF

set_option linter.all false
set_option maxRecDepth 100000
namespace GF
/-! ### plain maths: paths, fractions, terms -/
def RL (p : Tx) : Prop := ∀ c ∈ p, c = 82 ∨ c = 76
theorem RL.nil : RL [] := fun _ h => by simp at h
theorem RL.cons {c : Nat} {p : Tx} (h : c = 82 ∨ c = 76) (hp : RL p) : RL (c :: p) := by
  intro x hx
  rcases List.mem_cons.mp hx with rfl | h'
  · exact h
  · exact hp x h'
theorem RL.head {c : Nat} {p : Tx} (h : RL (c :: p)) : c = 82 ∨ c = 76 := h c (by simp)
theorem RL.tail {c : Nat} {p : Tx} (h : RL (c :: p)) : RL p := fun x hx => h x (by simp [hx])
theorem RL.app {p q : Tx} (h : RL p) (h2 : RL q) : RL (p ++ q) := by
  intro x hx
  rcases List.mem_append.mp hx with h' | h'
  · exact h x h'
  · exact h2 x h'
theorem RL.take {p : Tx} (n : Nat) (h : RL p) : RL (p.take n) := fun x hx => h x (List.mem_of_mem_take hx)
theorem RL.drop {p : Tx} (n : Nat) (h : RL p) : RL (p.drop n) := fun x hx => h x (List.mem_of_mem_drop hx)
theorem RL.dropLast {p : Tx} (h : RL p) : RL p.dropLast := by rw [List.dropLast_eq_take]; exact h.take _
theorem RL.rep {c : Nat} (n : Nat) (h : c = 82 ∨ c = 76) : RL (List.replicate n c) := by
  intro x hx
  rw [List.eq_of_mem_replicate hx]; exact h
theorem RL.repT {t : Tx} (n : Nat) (h : RL t) : RL (GF.repT t n) := by
  intro x hx
  simp only [GF.repT, List.mem_flatten, List.mem_replicate] at hx
  obtain ⟨l, ⟨_, rfl⟩, h2⟩ := hx
  exact h x h2
@[simp] theorem repT_one (c : Nat) (n : Nat) : repT [c] n = List.replicate n c := by
  unfold repT
  induction n with
  | zero => rfl
  | succ n ih => simp [List.replicate_succ, ih]
/-- top and bottom of a path's fraction -/
def F : Tx → Int × Int
  | [] => (1, 1)
  | c :: p => if c = 82 then ((F p).1 + (F p).2, (F p).2) else ((F p).1, (F p).1 + (F p).2)
theorem F_pos : ∀ p : Tx, 0 < (F p).1 ∧ 0 < (F p).2
  | [] => by decide
  | c :: p => by
    have := F_pos p
    simp only [F]
    split <;> simp <;> omega
/-- the fraction of terms -/
def cf : List Int → Int × Int
  | [] => (1, 0)
  | x :: g => (x * (cf g).1 + (cf g).2, (cf g).1)
def ltr (b : Bool) : Nat := if b = true then 82 else 76
theorem ltr_RL (b : Bool) : ltr b = 82 ∨ ltr b = 76 := by cases b <;> simp [ltr]
/-- runs of letters, as long as the terms tell -/
def runs : Bool → List Int → Tx
  | _, [] => []
  | b, x :: g => List.replicate x.toNat (ltr b) ++ runs (!b) g
theorem runs_RL : ∀ (b : Bool) (g : List Int), RL (runs b g)
  | _, [] => RL.nil
  | b, x :: g => (RL.rep _ (ltr_RL b)).app (runs_RL (!b) g)
/-- the same, the last run less one letter -/
def pl : Bool → List Int → Tx
  | _, [] => []
  | b, [x] => List.replicate (x.toNat - 1) (ltr b)
  | b, x :: y :: g => List.replicate x.toNat (ltr b) ++ pl (!b) (y :: g)
theorem pl_RL : ∀ (b : Bool) (g : List Int), RL (pl b g)
  | _, [] => RL.nil
  | b, [x] => RL.rep _ (ltr_RL b)
  | b, x :: y :: g => (RL.rep _ (ltr_RL b)).app (pl_RL (!b) (y :: g))
theorem runs_ne : ∀ (b : Bool) (g : List Int), (∃ a l, g = a ++ [l] ∧ 1 ≤ l) → runs b g ≠ []
  | _, [], h => by obtain ⟨a, l, h, _⟩ := h; simp at h
  | b, [x], h => by
    obtain ⟨a, l, h, hl⟩ := h
    have : x = l := by
      cases a with
      | nil => simpa using h
      | cons y a => simp at h
    subst this
    obtain ⟨n, hn⟩ : ∃ n, x.toNat = n + 1 := ⟨x.toNat - 1, by omega⟩
    simp [runs, hn, List.replicate_succ]
  | b, x :: y :: g, h => by
    have := runs_ne (!b) (y :: g) (by
      obtain ⟨a, l, h, hl⟩ := h
      cases a with
      | nil => simp at h
      | cons z a => simp at h; exact ⟨a, l, h.2, hl⟩)
    rw [runs]
    simp [this]
theorem runs_pl : ∀ (b : Bool) (g : List Int), (∃ a l, g = a ++ [l] ∧ 1 ≤ l) → (runs b g).dropLast = pl b g
  | _, [], h => by obtain ⟨a, l, h, _⟩ := h; simp at h
  | b, [x], h => by simp [runs, pl]
  | b, x :: y :: g, h => by
    have h' : ∃ a l, y :: g = a ++ [l] ∧ 1 ≤ l := by
      obtain ⟨a, l, h, hl⟩ := h
      cases a with
      | nil => simp at h
      | cons z a => simp at h; exact ⟨a, l, h.2, hl⟩
    rw [runs, List.dropLast_append_of_ne_nil (runs_ne _ _ h'), runs_pl _ _ h']
    rfl
theorem F_rep82 (q : Tx) : ∀ n : Nat, F (List.replicate n 82 ++ q) = ((F q).1 + n * (F q).2, (F q).2)
  | 0 => by simp
  | n + 1 => by
    rw [List.replicate_succ, List.cons_append, F, if_pos rfl, F_rep82 q n]
    simp only [Prod.mk.injEq, and_true]
    push_cast
    grind
theorem F_rep76 (q : Tx) : ∀ n : Nat, F (List.replicate n 76 ++ q) = ((F q).1, (F q).2 + n * (F q).1)
  | 0 => by simp
  | n + 1 => by
    rw [List.replicate_succ, List.cons_append, F, if_neg (by decide), F_rep76 q n]
    simp only [Prod.mk.injEq, true_and]
    push_cast
    grind
/-- terms from 0 on, the last one from 1 on -/
def VL : List Int → Prop
  | [] => False
  | [x] => 1 ≤ x
  | x :: y :: g => 0 ≤ x ∧ VL (y :: g)
theorem VL.last : ∀ {g : List Int}, VL g → ∃ a l, g = a ++ [l] ∧ 1 ≤ l
  | [], h => h.elim
  | [x], h => ⟨[], x, rfl, h⟩
  | x :: y :: g, h => by
    obtain ⟨a, l, e, hl⟩ := VL.last h.2
    exact ⟨x :: a, l, by rw [e]; rfl, hl⟩
theorem F_pl : ∀ g : List Int, VL g → F (pl true g) = cf g ∧ F (pl false g) = ((cf g).2, (cf g).1)
  | [], h => h.elim
  | [x], h => by
    have h : 1 ≤ x := h
    have h1 := F_rep82 [] (x.toNat - 1)
    have h2 := F_rep76 [] (x.toNat - 1)
    simp only [List.append_nil, F] at h1 h2
    have h3 : ((x.toNat - 1 : Nat) : Int) = x - 1 := by omega
    refine ⟨?_, ?_⟩
    · show F (List.replicate (x.toNat - 1) 82) = _
      rw [h1, h3]; simp [cf]; omega
    · show F (List.replicate (x.toNat - 1) 76) = _
      rw [h2, h3]; simp [cf]; omega
  | x :: y :: g, h => by
    obtain ⟨i1, i2⟩ := F_pl (y :: g) h.2
    have hx : (x.toNat : Int) = x := Int.toNat_of_nonneg h.1
    refine ⟨?_, ?_⟩
    · show F (List.replicate x.toNat 82 ++ pl false (y :: g)) = _
      rw [F_rep82, i2, hx]
      simp only [cf, Prod.mk.injEq, and_true]
      grind
    · show F (List.replicate x.toNat 76 ++ pl true (y :: g)) = _
      rw [F_rep76, i1, hx]
      simp only [cf, Prod.mk.injEq, true_and]
      grind
/-- Euclid's divisions, at most n of them -/
def euc : Nat → Int → Int → List Int
  | 0, _, _ => []
  | n + 1, t, b => if b = 0 then [] else Int.fdiv t b :: euc n b (Int.fmod t b)
/-- terms behind the first one -/
def VT : List Int → Prop
  | [] => False
  | [x] => 2 ≤ x
  | x :: y :: g => 1 ≤ x ∧ VT (y :: g)
theorem VT.VL : ∀ {g : List Int}, VT g → VL g
  | [], h => h
  | [x], h => by have h : 2 ≤ x := h; show 1 ≤ x; omega
  | x :: y :: g, h => ⟨by have := h.1; omega, VT.VL h.2⟩
theorem cf_VT : ∀ g : List Int, VT g → (cf g).2 < (cf g).1 ∧ 1 ≤ (cf g).2
  | [], h => h.elim
  | [x], h => by
    have h : 2 ≤ x := h
    simp [cf]; omega
  | x :: y :: g, h => by
    obtain ⟨i1, i2⟩ := cf_VT (y :: g) h.2
    have := h.1
    rw [cf]
    generalize (cf (y :: g)).1 = t at *
    generalize (cf (y :: g)).2 = b at *
    refine ⟨?_, by show 1 ≤ t; omega⟩
    show t < x * t + b
    have : 0 ≤ (x - 1) * t := Int.mul_nonneg (by omega) (by omega)
    grind
theorem fdm {t b x : Int} (h : 0 ≤ b) (h2 : b < t) : Int.fdiv (x * t + b) t = x ∧ Int.fmod (x * t + b) t = b := by
  have h0 : 0 ≤ t := by omega
  rw [Int.fdiv_eq_ediv_of_nonneg _ h0, Int.fmod_eq_emod_of_nonneg _ h0]
  rw [Int.add_comm]
  refine ⟨?_, ?_⟩
  · rw [Int.add_mul_ediv_right _ _ (by omega), Int.ediv_eq_zero_of_lt h h2, Int.zero_add]
  · rw [Int.add_mul_emod_self_right, Int.emod_eq_of_lt h h2]
theorem euc_VT : ∀ (g : List Int), VT g → ∀ n, g.length ≤ n → euc n (cf g).1 (cf g).2 = g
  | [], h, _, _ => h.elim
  | [x], h, n + 1, hn => by
    have := fdm (t := 1) (b := 0) (x := x) (by decide) (by decide)
    simp [cf, euc] at this ⊢
    cases n <;> simp [euc]
  | x :: y :: g, h, n + 1, hn => by
    have i := euc_VT (y :: g) h.2 n (by simpa using hn)
    obtain ⟨i1, i2⟩ := cf_VT (y :: g) h.2
    rw [cf]
    generalize hq : cf (y :: g) = q at *
    obtain ⟨t, b⟩ := q
    obtain ⟨f1, f2⟩ := fdm (t := t) (b := b) (x := x) (by simp at i2; omega) i1
    rw [euc, if_neg (by simp at i1 i2 ⊢; omega)]
    show Int.fdiv (x * t + b) t :: euc n t (Int.fmod (x * t + b) t) = _
    rw [f1, f2, i]
  | [x], _, 0, hn => by simp at hn
  | x :: y :: g, _, 0, hn => by simp at hn
/-- terms as they must be -/
def VA : List Int → Prop
  | [] => False
  | [x] => 1 ≤ x
  | x :: y :: g => 0 ≤ x ∧ VT (y :: g)
theorem VA.VL : ∀ {g : List Int}, VA g → VL g
  | [], h => h
  | [x], h => h
  | x :: y :: g, h => ⟨h.1, VT.VL h.2⟩
theorem euc_VA : ∀ (g : List Int), VA g → ∀ n, g.length ≤ n → euc n (cf g).1 (cf g).2 = g
  | [], h, _, _ => h.elim
  | [x], h, n + 1, hn => by
    simp [cf, euc]
    cases n <;> simp [euc]
  | x :: y :: g, h, n + 1, hn => by
    have i := euc_VT (y :: g) h.2 n (by simpa using hn)
    obtain ⟨i1, i2⟩ := cf_VT (y :: g) h.2
    rw [cf]
    generalize hq : cf (y :: g) = q at *
    obtain ⟨t, b⟩ := q
    obtain ⟨f1, f2⟩ := fdm (t := t) (b := b) (x := x) (by simp at i2; omega) i1
    rw [euc, if_neg (by simp at i1 i2 ⊢; omega)]
    show Int.fdiv (x * t + b) t :: euc n t (Int.fmod (x * t + b) t) = _
    rw [f1, f2, i]
  | [x], _, 0, hn => by simp at hn
  | x :: y :: g, _, 0, hn => by simp at hn
/-- the groups of equal letters; c is the letter of the present one, n its length so far -/
def grp : Tx → Nat → Int → List Int
  | [], _, n => [n + 1]
  | x :: p, c, n => if x = c then grp p c (n + 1) else n :: grp p x 1
theorem grp_ne : ∀ (p : Tx) (c : Nat) (n : Int), ∃ x g, grp p c n = x :: g
  | [], _, n => ⟨_, _, rfl⟩
  | x :: p, c, n => by
    rw [grp]
    split
    · exact grp_ne p c (n + 1)
    · exact ⟨_, _, rfl⟩
theorem grp_len : ∀ (p : Tx) (c : Nat) (n : Int), (grp p c n).length ≤ p.length + 1
  | [], _, n => by simp [grp]
  | x :: p, c, n => by
    rw [grp]
    split
    · have := grp_len p c (n + 1); simp; omega
    · have := grp_len p x 1; simp; omega
theorem grp_VT : ∀ (p : Tx) (c : Nat) (n : Int), 1 ≤ n → VT (grp p c n)
  | [], _, n, h => by show 2 ≤ n + 1; omega
  | x :: p, c, n, h => by
    rw [grp]
    split
    · exact grp_VT p c (n + 1) (by omega)
    · obtain ⟨y, g, e⟩ := grp_ne p x 1
      have := grp_VT p x 1 (by omega)
      rw [e] at this ⊢
      exact ⟨h, this⟩
theorem grp_VA : ∀ (p : Tx) (c : Nat) (n : Int), 0 ≤ n → VA (grp p c n)
  | [], _, n, h => by show 1 ≤ n + 1; omega
  | x :: p, c, n, h => by
    rw [grp]
    split
    · exact grp_VA p c (n + 1) (by omega)
    · obtain ⟨y, g, e⟩ := grp_ne p x 1
      have := grp_VT p x 1 (by omega)
      rw [e] at this ⊢
      exact ⟨h, this⟩
theorem grp_pl : ∀ (p : Tx) (b : Bool) (n : Int), RL p → 0 ≤ n → pl b (grp p (ltr b) n) = List.replicate n.toNat (ltr b) ++ p
  | [], b, n, _, h => by
    simp only [grp, pl, List.append_nil]
    congr 1
    omega
  | x :: p, b, n, hp, h => by
    rw [grp]
    split
    · rename_i hx
      rw [grp_pl p b (n + 1) hp.tail (by omega), show (n + 1).toNat = n.toNat + 1 by omega, List.replicate_succ', hx]
      simp
    · rename_i hx
      have hx' : x = ltr (!b) := by
        rcases hp.head with rfl | rfl <;> cases b <;> simp [ltr] at hx ⊢
      obtain ⟨y, g, e⟩ := grp_ne p x 1
      have i := grp_pl p (!b) 1 hp.tail (by omega)
      rw [← hx', e] at i
      rw [e]
      show List.replicate n.toNat (ltr b) ++ pl (!b) (y :: g) = _
      rw [i]
      rfl
/-- the terms of a path -/
def termsP (p : Tx) : List Int := grp p 82 0
theorem pl_termsP {p : Tx} (h : RL p) : pl true (termsP p) = p := by
  have := grp_pl p true 0 h (by decide)
  simpa [ltr, termsP] using this
theorem termsP_VA (p : Tx) : VA (termsP p) := grp_VA p 82 0 (by decide)
theorem cf_termsP {p : Tx} (h : RL p) : cf (termsP p) = F p := by
  have := (F_pl (termsP p) (termsP_VA p).VL).1
  rw [← this, pl_termsP h]
theorem euc_F {p : Tx} (h : RL p) : euc (p.length + 2) (F p).1 (F p).2 = termsP p := by
  rw [← cf_termsP h]
  exact euc_VA _ (termsP_VA p) _ (by have := grp_len p 82 0; simp only [termsP]; omega)
/-- letters by subtraction -/
def lets : Nat → Int → Int → Tx
  | 0, _, _ => []
  | n + 1, t, b => if b < t then 82 :: lets n (t - b) b else if t < b then 76 :: lets n t (b - t) else []
theorem lets_F : ∀ (p : Tx) (n : Nat), RL p → p.length ≤ n → lets n (F p).1 (F p).2 = p
  | [], 0, _, _ => rfl
  | [], n + 1, _, _ => by simp [F, lets]
  | c :: p, 0, _, h => by simp at h
  | c :: p, n + 1, hp, h => by
    have i := lets_F p n hp.tail (by simpa using h)
    have hF := F_pos p
    rcases hp.head with rfl | rfl
    · rw [lets, F, if_pos rfl]
      simp only
      rw [if_pos (by omega), show (F p).1 + (F p).2 - (F p).2 = (F p).1 by omega, i]
    · rw [lets, show F (76 :: p) = ((F p).1, (F p).1 + (F p).2) from rfl]
      simp only
      rw [if_neg (by omega), if_pos (by omega), show (F p).1 + (F p).2 - (F p).1 = (F p).2 by omega, i]
theorem pl_len : ∀ (b : Bool) (g : List Int), VL g → ((pl b g).length : Int) = g.sum - 1
  | _, [], h => h.elim
  | b, [x], h => by have h : 1 ≤ x := h; simp [pl]; omega
  | b, x :: y :: g, h => by
    have := pl_len (!b) (y :: g) h.2
    have := h.1
    simp only [pl, List.length_append, List.length_replicate, List.sum_cons] at *
    omega
theorem termsP_sum {p : Tx} (h : RL p) : (termsP p).sum = p.length + 1 := by
  have := pl_len true (termsP p) (termsP_VA p).VL
  rw [pl_termsP h] at this
  omega
theorem cf_bd (x0 : Nat) : ∀ g : List Int, (∀ x ∈ g, 0 ≤ x ∧ x < 2 ^ x0 - 1) → 0 ≤ (cf g).1 ∧ (cf g).1 ≤ 2 ^ (x0 * g.length) ∧ 0 ≤ (cf g).2 ∧ (cf g).2 ≤ 2 ^ (x0 * g.length)
  | [], _ => by simp [cf]
  | x :: g, h => by
    obtain ⟨i1, i2, i3, i4⟩ := cf_bd x0 g (fun y hy => h y (by simp [hy]))
    obtain ⟨hx, hx2⟩ := h x (by simp)
    have e : (2 : Int) ^ (x0 * (x :: g).length) = 2 ^ x0 * 2 ^ (x0 * g.length) := by
      rw [List.length_cons, Nat.mul_add, Nat.mul_one, Int.pow_add, Int.mul_comm]
    rw [e]
    simp only [cf]
    have h2 : (0 : Int) < 2 ^ (x0 * g.length) := Int.pow_pos (by decide)
    generalize (2 : Int) ^ (x0 * g.length) = P at *
    generalize (2 : Int) ^ x0 = Q at *
    have h3 : x * (cf g).1 ≤ x * P := Int.mul_le_mul_of_nonneg_left i2 hx
    have h4 : x * P ≤ (Q - 2) * P := Int.mul_le_mul_of_nonneg_right (by omega) (by omega)
    have h5 : 0 ≤ x * (cf g).1 := Int.mul_nonneg hx i1
    have h6 : P * 1 ≤ P * Q := Int.mul_le_mul_of_nonneg_left (by omega) (by omega)
    refine ⟨by omega, ?_, i1, ?_⟩ <;> grind
end GF

set_option linter.all false
set_option maxRecDepth 100000
namespace L07
open GF
/-! written by gen.py: the law's text in the small language -/
def tb : Tb := { consts := [.str [48, 49, 50, 51, 52, 53, 54, 55, 56, 57], .int 4000, .int 60], cls := [{ name := "GrownError", exc := true, flds := [], sup := [] }, { name := "BadText", exc := true, flds := ["given"], sup := [0] }, { name := "NoNumber", exc := true, flds := [], sup := [0] }, { name := "NoValue", exc := true, flds := [], sup := [0] }, { name := "BadPath", exc := true, flds := ["path"], sup := [0] }, { name := "TooDeep", exc := true, flds := ["most"], sup := [0] }, { name := "Frac", exc := false, flds := ["top", "bottom"], sup := [] }, { name := "Node", exc := false, flds := ["path", "frac", "low_parent", "high_parent", "weight"], sup := [] }], pats := [{ f := 8, n := 0, ks := ["path"], dfl := [], perm := [0] }, { f := 10, n := 0, ks := ["path"], dfl := [], perm := [0] }, { f := 18, n := 0, ks := [], dfl := [], perm := [] }, { f := 21, n := 6, ks := [], dfl := [], perm := [0, 1, 2, 3, 4, 5] }, { f := 22, n := 3, ks := [], dfl := [.int 1], perm := [0, 1, 2] }, { f := 22, n := 2, ks := [], dfl := [.int 1], perm := [0, 1, 2] }], mpats := [(7, "__init__", 3), (6, "__init__", 4), (6, "__init__", 5)] }
@[simp] theorem tb_k0 : tb.consts[0]? = some (.str [48, 49, 50, 51, 52, 53, 54, 55, 56, 57]) := (rfl)
@[simp] theorem tb_k1 : tb.consts[1]? = some (.int 4000) := (rfl)
@[simp] theorem tb_k2 : tb.consts[2]? = some (.int 60) := (rfl)
@[simp] theorem tb_cl : tb.cls.length = 8 := (rfl)
@[simp] theorem tb_f0 : arity tb 0 = some 0 := (rfl)
@[simp] theorem tb_e0 : tb.isExc 0 = true := (rfl)
@[simp] theorem tb_s0_0 : tb.isSub 0 0 = true := (rfl)
@[simp] theorem tb_s0_1 : tb.isSub 0 1 = false := (rfl)
@[simp] theorem tb_s0_2 : tb.isSub 0 2 = false := (rfl)
@[simp] theorem tb_s0_3 : tb.isSub 0 3 = false := (rfl)
@[simp] theorem tb_s0_4 : tb.isSub 0 4 = false := (rfl)
@[simp] theorem tb_s0_5 : tb.isSub 0 5 = false := (rfl)
@[simp] theorem tb_s0_6 : tb.isSub 0 6 = false := (rfl)
@[simp] theorem tb_s0_7 : tb.isSub 0 7 = false := (rfl)
@[simp] theorem tb_f1 : arity tb 1 = some 1 := (rfl)
@[simp] theorem tb_e1 : tb.isExc 1 = true := (rfl)
@[simp] theorem tb_s1_0 : tb.isSub 1 0 = true := (rfl)
@[simp] theorem tb_s1_1 : tb.isSub 1 1 = true := (rfl)
@[simp] theorem tb_s1_2 : tb.isSub 1 2 = false := (rfl)
@[simp] theorem tb_s1_3 : tb.isSub 1 3 = false := (rfl)
@[simp] theorem tb_s1_4 : tb.isSub 1 4 = false := (rfl)
@[simp] theorem tb_s1_5 : tb.isSub 1 5 = false := (rfl)
@[simp] theorem tb_s1_6 : tb.isSub 1 6 = false := (rfl)
@[simp] theorem tb_s1_7 : tb.isSub 1 7 = false := (rfl)
@[simp] theorem tb_f2 : arity tb 2 = some 0 := (rfl)
@[simp] theorem tb_e2 : tb.isExc 2 = true := (rfl)
@[simp] theorem tb_s2_0 : tb.isSub 2 0 = true := (rfl)
@[simp] theorem tb_s2_1 : tb.isSub 2 1 = false := (rfl)
@[simp] theorem tb_s2_2 : tb.isSub 2 2 = true := (rfl)
@[simp] theorem tb_s2_3 : tb.isSub 2 3 = false := (rfl)
@[simp] theorem tb_s2_4 : tb.isSub 2 4 = false := (rfl)
@[simp] theorem tb_s2_5 : tb.isSub 2 5 = false := (rfl)
@[simp] theorem tb_s2_6 : tb.isSub 2 6 = false := (rfl)
@[simp] theorem tb_s2_7 : tb.isSub 2 7 = false := (rfl)
@[simp] theorem tb_f3 : arity tb 3 = some 0 := (rfl)
@[simp] theorem tb_e3 : tb.isExc 3 = true := (rfl)
@[simp] theorem tb_s3_0 : tb.isSub 3 0 = true := (rfl)
@[simp] theorem tb_s3_1 : tb.isSub 3 1 = false := (rfl)
@[simp] theorem tb_s3_2 : tb.isSub 3 2 = false := (rfl)
@[simp] theorem tb_s3_3 : tb.isSub 3 3 = true := (rfl)
@[simp] theorem tb_s3_4 : tb.isSub 3 4 = false := (rfl)
@[simp] theorem tb_s3_5 : tb.isSub 3 5 = false := (rfl)
@[simp] theorem tb_s3_6 : tb.isSub 3 6 = false := (rfl)
@[simp] theorem tb_s3_7 : tb.isSub 3 7 = false := (rfl)
@[simp] theorem tb_f4 : arity tb 4 = some 1 := (rfl)
@[simp] theorem tb_e4 : tb.isExc 4 = true := (rfl)
@[simp] theorem tb_s4_0 : tb.isSub 4 0 = true := (rfl)
@[simp] theorem tb_s4_1 : tb.isSub 4 1 = false := (rfl)
@[simp] theorem tb_s4_2 : tb.isSub 4 2 = false := (rfl)
@[simp] theorem tb_s4_3 : tb.isSub 4 3 = false := (rfl)
@[simp] theorem tb_s4_4 : tb.isSub 4 4 = true := (rfl)
@[simp] theorem tb_s4_5 : tb.isSub 4 5 = false := (rfl)
@[simp] theorem tb_s4_6 : tb.isSub 4 6 = false := (rfl)
@[simp] theorem tb_s4_7 : tb.isSub 4 7 = false := (rfl)
@[simp] theorem tb_f5 : arity tb 5 = some 1 := (rfl)
@[simp] theorem tb_e5 : tb.isExc 5 = true := (rfl)
@[simp] theorem tb_s5_0 : tb.isSub 5 0 = true := (rfl)
@[simp] theorem tb_s5_1 : tb.isSub 5 1 = false := (rfl)
@[simp] theorem tb_s5_2 : tb.isSub 5 2 = false := (rfl)
@[simp] theorem tb_s5_3 : tb.isSub 5 3 = false := (rfl)
@[simp] theorem tb_s5_4 : tb.isSub 5 4 = false := (rfl)
@[simp] theorem tb_s5_5 : tb.isSub 5 5 = true := (rfl)
@[simp] theorem tb_s5_6 : tb.isSub 5 6 = false := (rfl)
@[simp] theorem tb_s5_7 : tb.isSub 5 7 = false := (rfl)
@[simp] theorem tb_f6 : arity tb 6 = some 2 := (rfl)
@[simp] theorem tb_e6 : tb.isExc 6 = false := (rfl)
@[simp] theorem tb_s6_0 : tb.isSub 6 0 = false := (rfl)
@[simp] theorem tb_s6_1 : tb.isSub 6 1 = false := (rfl)
@[simp] theorem tb_s6_2 : tb.isSub 6 2 = false := (rfl)
@[simp] theorem tb_s6_3 : tb.isSub 6 3 = false := (rfl)
@[simp] theorem tb_s6_4 : tb.isSub 6 4 = false := (rfl)
@[simp] theorem tb_s6_5 : tb.isSub 6 5 = false := (rfl)
@[simp] theorem tb_s6_6 : tb.isSub 6 6 = true := (rfl)
@[simp] theorem tb_s6_7 : tb.isSub 6 7 = false := (rfl)
@[simp] theorem tb_f7 : arity tb 7 = some 5 := (rfl)
@[simp] theorem tb_e7 : tb.isExc 7 = false := (rfl)
@[simp] theorem tb_s7_0 : tb.isSub 7 0 = false := (rfl)
@[simp] theorem tb_s7_1 : tb.isSub 7 1 = false := (rfl)
@[simp] theorem tb_s7_2 : tb.isSub 7 2 = false := (rfl)
@[simp] theorem tb_s7_3 : tb.isSub 7 3 = false := (rfl)
@[simp] theorem tb_s7_4 : tb.isSub 7 4 = false := (rfl)
@[simp] theorem tb_s7_5 : tb.isSub 7 5 = false := (rfl)
@[simp] theorem tb_s7_6 : tb.isSub 7 6 = false := (rfl)
@[simp] theorem tb_s7_7 : tb.isSub 7 7 = true := (rfl)
@[simp] theorem tb_x6_0 : tb.fix 6 "top" = some 0 := (rfl)
@[simp] theorem tb_x6_1 : tb.fix 6 "bottom" = some 1 := (rfl)
@[simp] theorem tb_x7_0 : tb.fix 7 "path" = some 0 := (rfl)
@[simp] theorem tb_x7_1 : tb.fix 7 "frac" = some 1 := (rfl)
@[simp] theorem tb_x7_2 : tb.fix 7 "low_parent" = some 2 := (rfl)
@[simp] theorem tb_x7_3 : tb.fix 7 "high_parent" = some 3 := (rfl)
@[simp] theorem tb_x7_4 : tb.fix 7 "weight" = some 4 := (rfl)
@[simp] theorem tb_m0 : tb.mq 7 "__init__" 5 [] = some ({ f := 21, n := 6, ks := [], dfl := [], perm := [0, 1, 2, 3, 4, 5] }) := (rfl)
@[simp] theorem tb_m1 : tb.mq 6 "__init__" 2 [] = some ({ f := 22, n := 3, ks := [], dfl := [.int 1], perm := [0, 1, 2] }) := (rfl)
@[simp] theorem tb_m2 : tb.mq 6 "__init__" 1 [] = some ({ f := 22, n := 2, ks := [], dfl := [.int 1], perm := [0, 1, 2] }) := (rfl)
@[simp] theorem tb_p0 : tb.pats[0]? = some ({ f := 8, n := 0, ks := ["path"], dfl := [], perm := [0] }) := (rfl)
@[simp] theorem tb_p1 : tb.pats[1]? = some ({ f := 10, n := 0, ks := ["path"], dfl := [], perm := [0] }) := (rfl)
@[simp] theorem tb_p2 : tb.pats[2]? = some ({ f := 18, n := 0, ks := [], dfl := [], perm := [] }) := (rfl)
@[simp] theorem tb_p3 : tb.pats[3]? = some ({ f := 21, n := 6, ks := [], dfl := [], perm := [0, 1, 2, 3, 4, 5] }) := (rfl)
@[simp] theorem tb_p4 : tb.pats[4]? = some ({ f := 22, n := 3, ks := [], dfl := [.int 1], perm := [0, 1, 2] }) := (rfl)
@[simp] theorem tb_p5 : tb.pats[5]? = some ({ f := 22, n := 2, ks := [], dfl := [.int 1], perm := [0, 1, 2] }) := (rfl)
def c_law_0 : E := (.call 7 (.cons (.var 12) .nil))
def b_law_1 : Bl := (.cons (.set 10 (.ix (.frz (.disp (.cons (.var 2) (.cons (.var 3) .nil)))) (.var 9)))
 (.cons (.set 11 (.ix (.var 8) (.var 9)))
 (.cons (.ifs (.tor (.cmp .ne (.call 9 (.cons (.var 10) .nil)) (.var 11)) (.one (.cmp .ne (.call 7 (.cons (.call 8 (.cons (.var 10) .nil)) .nil)) (.ix (.var 11) (.neg (.cst (.int 1)))))))
 (.cons (.ret (.cst (.bl false)))
 .nil)
 .nil)
 (.cons (.ifs (.cmp .ne (.call 7 (.cons (.callK 0 .nil (.cons (.sl (.var 10) .none (.some (.var 5))) .nil)) .nil)) (.ix (.var 11) (.blt .min2 (.cons (.var 5) (.cons (.blt .len (.cons (.var 10) .nil)) .nil)))))
 (.cons (.ret (.cst (.bl false)))
 .nil)
 .nil)
 (.cons (.ifs (.cmp .ne (.frz (.comp0 12 (.seq (.callK 1 .nil (.cons (.var 10) .nil))) c_law_0)) (.var 11))
 (.cons (.ret (.cst (.bl false)))
 .nil)
 .nil)
 (.cons (.ifs (.cmp .ne (.call 7 (.cons (.call 8 (.cons (.cst (.str [])) .nil)) .nil)) (.ix (.var 11) (.cst (.int 0))))
 (.cons (.ret (.cst (.bl false)))
 .nil)
 .nil)
 .nil))))))
def b_law_2 : Bl := (.cons (.ifs (.cmp .ne (.call 11 (.cons (.var 13) (.cons (.var 6) .nil))) (.tup (.cons (.cst (.str [112, 97, 116, 104])) (.cons (.var 6) (.cons (.cst (.bl true)) (.cons (.cst (.bl false)) .nil))))))
 (.cons (.ret (.cst (.bl false)))
 .nil)
 .nil)
 (.cons (.ifs (.cmp .ne (.call 11 (.cons (.var 13) (.cons (.var 7) .nil))) (.tup (.cons (.cst (.str [100, 101, 101, 112])) (.cons (.cst (.int 60)) (.cons (.cst (.bl true)) (.cons (.cst (.bl false)) .nil))))))
 (.cons (.ret (.cst (.bl false)))
 .nil)
 .nil)
 (.cons (.ifs (.cmp .ne (.call 11 (.cons (.var 13) (.cons (.bin .add (.var 4) (.var 7)) .nil))) (.tup (.cons (.cst (.str [112, 97, 116, 104])) (.cons (.bin .add (.var 4) (.var 7)) (.cons (.cst (.bl true)) (.cons (.cst (.bl false)) .nil))))))
 (.cons (.ret (.cst (.bl false)))
 .nil)
 .nil)
 .nil)))
def f_law : FnI := ⟨14, (.cons (.setN 1 (.call 1 (.cons (.var 0) .nil)))
 (.cons (.set 2 (.call 2 (.cons (.var 1) (.cons (.cst (.int 60)) .nil))))
 (.cons (.set 3 (.call 3 (.cons (.var 1) (.cons (.var 2) (.cons (.cst (.int 30)) .nil)))))
 (.cons (.set 4 (.call 4 (.cons (.var 1) .nil)))
 (.cons (.set 5 (.call 5 (.cons (.var 1) (.cons (.bin .add (.blt .len (.cons (.var 2) .nil)) (.cst (.int 1))) .nil))))
 (.cons (.set 6 (.bin .add (.bin .add (.sl (.var 2) .none (.some (.var 5))) (.var 4)) (.var 3)))
 (.cons (.set 7 (.sl (.bin .add (.bin .add (.var 2) (.var 3)) (.bin .mul (.cst (.str [82, 76, 76])) (.cst (.int 21)))) .none (.some (.cst (.int 61)))))
 (.cons (.set 8 (.frz (.disp (.cons (.call 6 (.cons (.var 2) .nil)) (.cons (.call 6 (.cons (.var 3) .nil)) .nil)))))
 (.cons (.for1 9 (.new (.disp (.cons (.cst (.int 0)) (.cons (.cst (.int 1)) (.cons (.cst (.int 0)) .nil))))) []
 b_law_1)
 (.cons (.for1 13 (.rng1 (.cst (.int 2))) []
 b_law_2)
 (.cons (.ret (.cmp .eq (.call 9 (.cons (.sl (.var 7) (.some (.cst (.int 1))) .none) .nil)) (.call 6 (.cons (.sl (.var 7) (.some (.cst (.int 1))) .none) .nil))))
 .nil)))))))))))⟩
def b__law_pool_0 : Bl := (.cons (.set 2 (.bin .mod (.blt .int (.cons (.bin .add (.bin .mul (.var 2) (.cst (.int 31))) (.var 3)) .nil)) (.cst (.int 99991))))
 (.cons (.ifs (.cmp .ge (.var 3) (.bin .pow (.cst (.int 10)) (.cst (.int 18))))
 (.cons (.ex (.mut .append 1 (.cons (.bin .mod (.blt .int (.cons (.var 3) .nil)) (.bin .pow (.cst (.int 1000)) (.cst (.int 64)))) .nil)))
 .nil)
 (.cons (.ex (.mut .append 1 (.cons (.call 12 (.cons (.var 2) (.cons (.cst (.int 4)) .nil))) .nil)))
 .nil))
 .nil))
def f__law_pool : FnI := ⟨4, (.cons (.setN 1 (.disp .nil))
 (.cons (.set 2 (.cst (.int 7573)))
 (.cons (.for1 3 (.new (.cut (.var 0) .none (.some (.cst (.int 63))))) []
 b__law_pool_0)
 (.cons (.ex (.mut .append 1 (.cons (.call 12 (.cons (.bin .add (.var 2) (.cst (.int 7))) (.cons (.cst (.int 20)) .nil))) .nil)))
 (.cons (.retC 1)
 .nil)))))⟩
def c__law_path_0 : E := (.ix (.cst (.str [82, 76])) (.call 5 (.cons (.var 0) (.cons (.cst (.int 2)) .nil))))
def b__law_path_1 : Bl := (.cons (.ifs (.cmp .lt (.blt .len (.cons (.var 6) .nil)) (.var 3))
 (.cons (.set 6 (.bin .add (.var 6) (.bin .mul (.ix (.cst (.str [82, 76])) (.bin .mod (.blt .int (.cons (.bin .add (.var 5) (.var 4)) .nil)) (.cst (.int 2)))) (.bin .add (.call 5 (.cons (.var 0) (.cons (.cst (.int 4)) .nil))) (.cst (.int 1))))))
 .nil)
 .nil)
 .nil)
def f__law_path : FnI := ⟨7, (.cons (.set 2 (.call 5 (.cons (.var 0) (.cons (.cst (.int 24)) .nil))))
 (.cons (.ifs (.cmp .eq (.var 2) (.cst (.int 3)))
 (.cons (.ret (.cst (.str [])))
 .nil)
 .nil)
 (.cons (.ifs (.tor (.cmp .eq (.var 2) (.cst (.int 4))) (.one (.cmp .eq (.var 2) (.cst (.int 5)))))
 (.cons (.ret (.ix (.cst (.str [82, 76])) (.bin .sub (.var 2) (.cst (.int 4)))))
 .nil)
 .nil)
 (.cons (.set 3 (.call 5 (.cons (.var 0) (.cons (.cst (.int 10)) .nil))))
 (.cons (.ifs (.cmp2 .le .lt (.cst (.int 6)) (.var 2) (.cst (.int 12)))
 (.cons (.set 3 (.call 5 (.cons (.var 0) (.cons (.bin .add (.var 1) (.cst (.int 1))) .nil))))
 .nil)
 .nil)
 (.cons (.ifs (.cmp .lt (.var 2) (.cst (.int 3)))
 (.cons (.set 3 (.var 1))
 .nil)
 .nil)
 (.cons (.ifs (.cmp .ne (.bin .mod (.blt .int (.cons (.var 2) .nil)) (.cst (.int 3))) (.cst (.int 2)))
 (.cons (.ret (.bm .join (.cst (.str [])) (.cons (.frz (.comp0 4 (.rng1 (.var 3)) c__law_path_0)) .nil)))
 .nil)
 .nil)
 (.cons (.set 5 (.call 5 (.cons (.var 0) (.cons (.cst (.int 2)) .nil))))
 (.cons (.set 6 (.cst (.str [])))
 (.cons (.for1 4 (.rng1 (.var 3)) []
 b__law_path_1)
 (.cons (.ret (.sl (.var 6) .none (.some (.var 3))))
 .nil)))))))))))⟩
def f__law_second : FnI := ⟨7, (.cons (.set 3 (.call 5 (.cons (.var 0) (.cons (.cst (.int 6)) .nil))))
 (.cons (.set 4 (.call 5 (.cons (.var 0) (.cons (.bin .add (.blt .len (.cons (.var 1) .nil)) (.cst (.int 1))) .nil))))
 (.cons (.set 5 (.ix (.cst (.str [82, 76])) (.call 5 (.cons (.var 0) (.cons (.cst (.int 2)) .nil)))))
 (.cons (.set 6 (.call 2 (.cons (.var 0) (.cons (.var 2) .nil))))
 (.cons (.ifs (.cmp .eq (.var 3) (.cst (.int 0)))
 (.cons (.set 6 (.sl (.var 1) .none (.some (.var 4))))
 .nil)
 .nil)
 (.cons (.ifs (.cmp .eq (.var 3) (.cst (.int 1)))
 (.cons (.set 6 (.sl (.bin .add (.bin .add (.var 1) (.var 5)) (.var 6)) .none (.some (.var 2))))
 .nil)
 .nil)
 (.cons (.ifs (.cmp .eq (.var 3) (.cst (.int 2)))
 (.cons (.set 6 (.sl (.bin .add (.bin .add (.sl (.var 1) .none (.some (.var 4))) (.var 5)) (.var 6)) .none (.some (.var 2))))
 .nil)
 .nil)
 (.cons (.ifs (.cmp .eq (.var 6) (.var 1))
 (.cons (.set 6 (.sl (.var 1) .none (.some (.neg (.cst (.int 1))))))
 .nil)
 .nil)
 (.cons (.ifs (.cmp .eq (.var 6) (.var 1))
 (.cons (.set 6 (.var 5))
 .nil)
 .nil)
 (.cons (.ret (.var 6))
 .nil))))))))))⟩
def f__law_sign : FnI := ⟨2, (.cons (.set 1 (.cst (.str [32, 33, 34, 35, 36, 38, 39, 40, 41, 42, 43, 44, 45, 46, 47, 48, 49, 50, 51, 52, 53, 54, 55, 56, 57, 58, 59, 60, 61, 62, 63, 64, 65, 66, 67, 68, 69, 70, 71, 72, 73, 74, 75, 77, 78, 79, 80, 81, 83, 84, 85, 86, 87, 88, 89, 90, 91, 92, 93, 94, 95, 96])))
 (.cons (.set 1 (.bin .add (.var 1) (.cst (.str [97, 98, 99, 100, 101, 102, 103, 104, 105, 106, 107, 108, 109, 110, 111, 112, 113, 114, 115, 116, 117, 118, 119, 120, 121, 122, 123, 124, 125, 126]))))
 (.cons (.ret (.ix (.var 1) (.call 5 (.cons (.var 0) (.cons (.blt .len (.cons (.var 1) .nil)) .nil)))))
 .nil)))⟩
def f__law_take : FnI := ⟨3, (.cons (.ifs (.cmp .eq (.blt .len (.cons (.var 0) .nil)) (.cst (.int 0)))
 (.cons (.ret (.cst (.int 0)))
 .nil)
 .nil)
 (.cons (.set 2 (.ix (.var 0) (.cst (.int 0))))
 (.cons (.setsub 0 (.cst (.int 0)) (.bin .fdiv (.var 2) (.var 1)))
 (.cons (.ifs (.cmp .eq (.ix (.var 0) (.cst (.int 0))) (.cst (.int 0)))
 (.cons (.ex (.mut .pop0 0 (.cons (.cst (.int 0)) .nil)))
 .nil)
 .nil)
 (.cons (.ret (.bin .mod (.blt .int (.cons (.var 2) .nil)) (.var 1)))
 .nil)))))⟩
def c__law_way_due_0 : E := (.call 13 (.cons (.sl (.var 0) .none (.some (.var 2))) .nil))
def c__law_way_due_1 : E := (.call 14 (.cons (.sl (.var 0) .none (.some (.var 2))) (.cons (.frz (.cut (.var 1) .none (.some (.bin .add (.var 2) (.cst (.int 1)))))) .nil)))
def f__law_way_due : FnI := ⟨3, (.cons (.set 1 (.frz (.comp0 2 (.rng1 (.bin .add (.blt .len (.cons (.var 0) .nil)) (.cst (.int 1)))) c__law_way_due_0)))
 (.cons (.retN (.comp0 2 (.rng1 (.bin .add (.blt .len (.cons (.var 0) .nil)) (.cst (.int 1)))) c__law_way_due_1))
 .nil))⟩
def f__law_node : FnI := ⟨2, (.cons (.ifs (.tor (.tnot (.val (.isi (.var 0) (.cls 7)))) (.one (.tnot (.val (.isi (.fld (.var 0) "path") .str)))))
 (.cons (.ret (.cst .non))
 .nil)
 .nil)
 (.cons (.ifs (.tnot (.val (.call 15 (.cons (.fld (.var 0) "weight") .nil))))
 (.cons (.ret (.cst .non))
 .nil)
 .nil)
 (.cons (.set 1 (.frz (.disp (.cons (.call 16 (.cons (.fld (.var 0) "low_parent") .nil)) (.cons (.call 16 (.cons (.fld (.var 0) "high_parent") .nil)) .nil)))))
 (.cons (.retN (.disp (.cons (.fld (.var 0) "path") (.cons (.call 16 (.cons (.fld (.var 0) "frac") .nil)) (.cons (.ix (.var 1) (.cst (.int 0))) (.cons (.ix (.var 1) (.cst (.int 1))) (.cons (.fld (.var 0) "weight") .nil)))))))
 .nil))))⟩
def f_node_at : FnI := ⟨1, (.cons (.ret (.ix (.call 10 (.cons (.var 0) .nil)) (.neg (.cst (.int 1)))))
 .nil)⟩
def c__law_way_told_0 : E := (.call 7 (.cons (.var 3) .nil))
def f__law_way_told : FnI := ⟨4, (.cons (.setN 1 (.call 10 (.cons (.var 0) .nil)))
 (.cons (.ifs (.tnot (.val (.isi (.var 1) .list)))
 (.cons (.ret (.cst .non))
 .nil)
 .nil)
 (.cons (.set 2 (.frz (.compC 3 1 c__law_way_told_0)))
 (.cons (.ex (.mut .append 1 (.cons (.cst .non) .nil)))
 (.cons (.setsub 1 (.cst (.int 0)) (.cst .non))
 (.cons (.ret (.var 2))
 .nil))))))⟩
def b_way_0 : Bl := (.cons (.ex (.mut .append 1 (.cons (.call 19 (.cons (.ix (.var 1) (.neg (.cst (.int 1)))) (.cons (.var 2) .nil))) .nil)))
 .nil)
def f_way : FnI := ⟨3, (.cons (.ex (.call 17 (.cons (.var 0) .nil)))
 (.cons (.setN 1 (.disp (.cons (.callK 2 .nil .nil) .nil)))
 (.cons (.for1 2 (.seq (.var 0)) []
 b_way_0)
 (.cons (.retC 1)
 .nil))))⟩
def f__law_refused : FnI := ⟨3, (.cons (.tryS (.cons (.ifs (.cmp .eq (.var 0) (.cst (.int 0)))
 (.cons (.ex (.call 8 (.cons (.var 1) .nil)))
 .nil)
 (.cons (.ex (.call 10 (.cons (.var 1) .nil)))
 .nil))
 .nil)
 (.cons 4 (some 2) (.cons (.ifs (.tnot (.val (.isi (.efld (.var 2) 4 0) .str)))
 (.cons (.ret (.cst .non))
 .nil)
 .nil)
 (.cons (.ret (.tup (.cons (.cst (.str [112, 97, 116, 104])) (.cons (.efld (.var 2) 4 0) (.cons (.isi (.var 2) (.cls 0)) (.cons (.isi (.var 2) (.cls 5)) .nil))))))
 .nil))
 (.cons 5 (some 2) (.cons (.ifs (.tnot (.val (.call 15 (.cons (.efld (.var 2) 5 0) .nil))))
 (.cons (.ret (.cst .non))
 .nil)
 .nil)
 (.cons (.ret (.tup (.cons (.cst (.str [100, 101, 101, 112])) (.cons (.efld (.var 2) 5 0) (.cons (.isi (.var 2) (.cls 0)) (.cons (.isi (.var 2) (.cls 4)) .nil))))))
 .nil))
 .nil)))
 (.cons (.ret (.cst .non))
 .nil))⟩
def b__law_mixed_0 : Bl := (.cons (.set 0 (.bin .mod (.blt .int (.cons (.bin .add (.bin .add (.bin .add (.bin .mul (.var 0) (.var 0)) (.bin .mul (.cst (.int 48271)) (.var 0))) (.bin .mul (.cst (.int 7919)) (.var 3))) (.cst (.int 11))) .nil)) (.cst (.int 99991))))
 (.cons (.set 2 (.bin .add (.bin .mul (.var 2) (.cst (.int 99991))) (.bin .mod (.blt .int (.cons (.bin .add (.bin .mul (.var 0) (.cst (.int 69621))) (.bin .mul (.cst (.int 5)) (.var 3))) .nil)) (.cst (.int 99991)))))
 .nil))
def f__law_mixed : FnI := ⟨4, (.cons (.set 2 (.cst (.int 1)))
 (.cons (.for1 3 (.rng1 (.var 1)) []
 b__law_mixed_0)
 (.cons (.ret (.var 2))
 .nil)))⟩
def b__law_mediant_0 : Bl := (.cons (.set 4 (.tup (.cons (.bin .add (.ix (.var 1) (.cst (.int 0))) (.ix (.var 2) (.cst (.int 0)))) (.cons (.bin .add (.ix (.var 1) (.cst (.int 1))) (.ix (.var 2) (.cst (.int 1)))) .nil))))
 (.cons (.ifs (.cmp .eq (.var 3) (.cst (.str [82])))
 (.cons (.set 1 (.var 4))
 .nil)
 (.cons (.set 2 (.var 4))
 .nil))
 .nil))
def f__law_mediant : FnI := ⟨5, (.cons (.set 1 (.tup (.cons (.cst (.int 0)) (.cons (.cst (.int 1)) .nil))))
 (.cons (.set 2 (.tup (.cons (.cst (.int 1)) (.cons (.cst (.int 0)) .nil))))
 (.cons (.for1 3 (.seq (.var 0)) []
 b__law_mediant_0)
 (.cons (.ret (.tup (.cons (.bin .add (.ix (.var 1) (.cst (.int 0))) (.ix (.var 2) (.cst (.int 0)))) (.cons (.bin .add (.ix (.var 1) (.cst (.int 1))) (.ix (.var 2) (.cst (.int 1)))) .nil))))
 .nil))))⟩
def b__law_due_0 : Bl := (.cons (.ifs (.tand (.val (.call 20 (.cons (.var 5) (.cons (.var 2) .nil)))) (.one (.val (.call 20 (.cons (.var 3) (.cons (.var 5) .nil))))))
 (.cons (.set 3 (.var 5))
 .nil)
 .nil)
 (.cons (.ifs (.tand (.val (.call 20 (.cons (.var 2) (.cons (.var 5) .nil)))) (.one (.val (.call 20 (.cons (.var 5) (.cons (.var 4) .nil))))))
 (.cons (.set 4 (.var 5))
 .nil)
 .nil)
 .nil))
def f__law_due : FnI := ⟨7, (.cons (.set 2 (.ix (.var 1) (.neg (.cst (.int 1)))))
 (.cons (.set 3 (.tup (.cons (.cst (.int 0)) (.cons (.cst (.int 1)) .nil))))
 (.cons (.set 4 (.tup (.cons (.cst (.int 1)) (.cons (.cst (.int 0)) .nil))))
 (.cons (.for1 5 (.seq (.var 1)) []
 b__law_due_0)
 (.cons (.set 6 (.bm .rstrip1 (.var 0) (.cons (.cst (.str [82])) .nil)))
 (.cons (.retN (.disp (.cons (.var 0) (.cons (.var 2) (.cons (.var 3) (.cons (.var 4) (.cons (.bin .add (.bin .sub (.blt .len (.cons (.var 0) .nil)) (.blt .len (.cons (.var 6) .nil))) (.blt .int (.cons (.cmp .ne (.var 6) (.cst (.str []))) .nil))) .nil)))))))
 .nil))))))⟩
def f__law_whole : FnI := ⟨1, (.cons (.ret (.vand (.isi (.var 0) .int) (.one (.vnot (.isi (.var 0) .bool)))))
 .nil)⟩
def f__law_frac : FnI := ⟨1, (.cons (.ifs (.tor (.tnot (.val (.isi (.var 0) (.cls 6)))) (.one (.tnot (.val (.call 15 (.cons (.fld (.var 0) "top") .nil))))))
 (.cons (.ret (.cst .non))
 .nil)
 .nil)
 (.cons (.ifs (.tnot (.val (.call 15 (.cons (.fld (.var 0) "bottom") .nil))))
 (.cons (.ret (.cst .non))
 .nil)
 .nil)
 (.cons (.ret (.tup (.cons (.fld (.var 0) "top") (.cons (.fld (.var 0) "bottom") .nil))))
 .nil)))⟩
def b_check_path_0 : Bl := (.cons (.ifs (.tand (.cmp .ne (.var 1) (.cst (.str [82]))) (.one (.cmp .ne (.var 1) (.cst (.str [76])))))
 (.cons (.rai 4 (.cons (.var 0) .nil))
 .nil)
 .nil)
 .nil)
def f_check_path : FnI := ⟨2, (.cons (.for1 1 (.seq (.var 0)) []
 b_check_path_0)
 (.cons (.ifs (.cmp .gt (.blt .len (.cons (.var 0) .nil)) (.glo 2))
 (.cons (.rai 5 (.cons (.glo 2) .nil))
 .nil)
 .nil)
 .nil))⟩
def f__root : FnI := ⟨0, (.cons (.ret (.make 7 [] (.cons (.cst (.str [])) (.cons (.make 6 [] (.cons (.cst (.int 1)) .nil) .nil) (.cons (.make 6 [] (.cons (.cst (.int 0)) .nil) .nil) (.cons (.make 6 [] (.cons (.cst (.int 1)) (.cons (.cst (.int 0)) .nil)) .nil) (.cons (.cst (.int 0)) .nil))))) .nil))
 .nil)⟩
def f__child : FnI := ⟨6, (.cons (.ifs (.cmp .eq (.var 1) (.cst (.str [82])))
 (.cons (.par3 2 3 4 (.fld (.var 0) "frac") (.fld (.var 0) "high_parent") (.bin .add (.fld (.var 0) "weight") (.cst (.int 1))))
 .nil)
 (.cons (.par3 2 3 4 (.fld (.var 0) "low_parent") (.fld (.var 0) "frac") (.cst (.int 1)))
 .nil))
 (.cons (.set 5 (.make 6 [] (.cons (.bin .add (.fld (.var 2) "top") (.fld (.var 3) "top")) (.cons (.bin .add (.fld (.var 2) "bottom") (.fld (.var 3) "bottom")) .nil)) .nil))
 (.cons (.ret (.make 7 [] (.cons (.bin .add (.fld (.var 0) "path") (.var 1)) (.cons (.var 5) (.cons (.var 2) (.cons (.var 3) (.cons (.var 4) .nil))))) .nil))
 .nil)))⟩
def f__law_less : FnI := ⟨2, (.cons (.ret (.cmp .lt (.bin .mul (.ix (.var 0) (.cst (.int 0))) (.ix (.var 1) (.cst (.int 1)))) (.bin .mul (.ix (.var 1) (.cst (.int 0))) (.ix (.var 0) (.cst (.int 1))))))
 .nil)⟩
def f_Node___init__ : FnI := ⟨6, (.cons (.setfld 0 "path" (.var 1))
 (.cons (.setfld 0 "frac" (.var 2))
 (.cons (.setfld 0 "low_parent" (.var 3))
 (.cons (.setfld 0 "high_parent" (.var 4))
 (.cons (.setfld 0 "weight" (.var 5))
 .nil)))))⟩
def f_Frac___init__ : FnI := ⟨4, (.cons (.ifs (.tand (.cmp .eq (.var 1) (.cst (.int 0))) (.one (.cmp .eq (.var 2) (.cst (.int 0)))))
 (.cons (.rai 2 .nil)
 .nil)
 .nil)
 (.cons (.set 3 (.blt .gcd (.cons (.var 1) (.cons (.var 2) .nil))))
 (.cons (.ifs (.tor (.cmp .lt (.var 2) (.cst (.int 0))) (.one (.tand (.cmp .eq (.var 2) (.cst (.int 0))) (.one (.cmp .lt (.var 1) (.cst (.int 0)))))))
 (.cons (.set 3 (.neg (.var 3)))
 .nil)
 .nil)
 (.cons (.setfld 0 "top" (.bin .fdiv (.var 1) (.var 3)))
 (.cons (.setfld 0 "bottom" (.bin .fdiv (.var 2) (.var 3)))
 .nil)))))⟩
def fs : List FnI := [f_law, f__law_pool, f__law_path, f__law_second, f__law_sign, f__law_take, f__law_way_due, f__law_node, f_node_at, f__law_way_told, f_way, f__law_refused, f__law_mixed, f__law_mediant, f__law_due, f__law_whole, f__law_frac, f_check_path, f__root, f__child, f__law_less, f_Node___init__, f_Frac___init__]
theorem P_law (k : Nat) : Phi tb fs (k + 1) 0 = runF tb (Phi tb fs k) f_law := rfl
theorem P__law_pool (k : Nat) : Phi tb fs (k + 1) 1 = runF tb (Phi tb fs k) f__law_pool := rfl
theorem P__law_path (k : Nat) : Phi tb fs (k + 1) 2 = runF tb (Phi tb fs k) f__law_path := rfl
theorem P__law_second (k : Nat) : Phi tb fs (k + 1) 3 = runF tb (Phi tb fs k) f__law_second := rfl
theorem P__law_sign (k : Nat) : Phi tb fs (k + 1) 4 = runF tb (Phi tb fs k) f__law_sign := rfl
theorem P__law_take (k : Nat) : Phi tb fs (k + 1) 5 = runF tb (Phi tb fs k) f__law_take := rfl
theorem P__law_way_due (k : Nat) : Phi tb fs (k + 1) 6 = runF tb (Phi tb fs k) f__law_way_due := rfl
theorem P__law_node (k : Nat) : Phi tb fs (k + 1) 7 = runF tb (Phi tb fs k) f__law_node := rfl
theorem P_node_at (k : Nat) : Phi tb fs (k + 1) 8 = runF tb (Phi tb fs k) f_node_at := rfl
theorem P__law_way_told (k : Nat) : Phi tb fs (k + 1) 9 = runF tb (Phi tb fs k) f__law_way_told := rfl
theorem P_way (k : Nat) : Phi tb fs (k + 1) 10 = runF tb (Phi tb fs k) f_way := rfl
theorem P__law_refused (k : Nat) : Phi tb fs (k + 1) 11 = runF tb (Phi tb fs k) f__law_refused := rfl
theorem P__law_mixed (k : Nat) : Phi tb fs (k + 1) 12 = runF tb (Phi tb fs k) f__law_mixed := rfl
theorem P__law_mediant (k : Nat) : Phi tb fs (k + 1) 13 = runF tb (Phi tb fs k) f__law_mediant := rfl
theorem P__law_due (k : Nat) : Phi tb fs (k + 1) 14 = runF tb (Phi tb fs k) f__law_due := rfl
theorem P__law_whole (k : Nat) : Phi tb fs (k + 1) 15 = runF tb (Phi tb fs k) f__law_whole := rfl
theorem P__law_frac (k : Nat) : Phi tb fs (k + 1) 16 = runF tb (Phi tb fs k) f__law_frac := rfl
theorem P_check_path (k : Nat) : Phi tb fs (k + 1) 17 = runF tb (Phi tb fs k) f_check_path := rfl
theorem P__root (k : Nat) : Phi tb fs (k + 1) 18 = runF tb (Phi tb fs k) f__root := rfl
theorem P__child (k : Nat) : Phi tb fs (k + 1) 19 = runF tb (Phi tb fs k) f__child := rfl
theorem P__law_less (k : Nat) : Phi tb fs (k + 1) 20 = runF tb (Phi tb fs k) f__law_less := rfl
theorem P_Node___init__ (k : Nat) : Phi tb fs (k + 1) 21 = runF tb (Phi tb fs k) f_Node___init__ := rfl
theorem P_Frac___init__ (k : Nat) : Phi tb fs (k + 1) 22 = runF tb (Phi tb fs k) f_Frac___init__ := rfl
end L07

set_option linter.all false
set_option maxRecDepth 100000
namespace L07
open GF
/-! the law's draws: only what they are -/
theorem lvl {k d : Nat} (h : d + 1 ≤ k) : ∃ k', k = k' + 1 ∧ d ≤ k' := ⟨k - 1, by omega, by omega⟩
theorem log_lt {a : Int} {k : Nat} (hk : 0 < k) (h : a.natAbs < 2 ^ k) : a.natAbs.log2 < k := by
  by_cases h0 : a.natAbs = 0
  · rw [h0]; simpa using hk
  · exact (Nat.log2_lt h0).mpr h
theorem mul_lt {a b : Int} (n m : Nat) (hn : 0 < n) (hm : 0 < m) (ha : a.natAbs < 2 ^ n) (hb : b.natAbs < 2 ^ m) (h : n + m ≤ 1000000) : binD .mul (.int a) (.int b) = some (.int (a * b)) := by
  have h1 := log_lt hn ha
  have h2 := log_lt hm hb
  show (if a.natAbs.log2 + b.natAbs.log2 < 1000000 then _ else _) = _
  rw [if_pos (by omega)]
theorem fmod_lo {a b : Int} (hb : 0 < b) : 0 ≤ Int.fmod a b ∧ Int.fmod a b < b := ⟨Int.fmod_nonneg_of_pos a hb, Int.fmod_lt_of_pos a hb⟩
theorem rangeL_eq (lo hi : Int) : rangeL lo hi = ((List.range (hi - lo).toNat).map fun (k : Nat) => lo + (k : Int)).map D.int := by
  simp [rangeL, Function.comp_def]
theorem mix_loop {Φ : Nat → FM} (m : D) (ks : List Int) : ∀ (seed num : Int) (n : Nat) (o3 : Option D), 0 ≤ seed → seed < 200000 → num.natAbs < 2 ^ n → 0 < n → n + 20 * ks.length ≤ 900000 → (∀ k ∈ ks, 0 ≤ k ∧ k < 1000) →
    ∃ (seed' num' : Int) (o3' : Option D), forGo (setOne 3) (evB tb Φ 0 b__law_mixed_0) [] 0 (ks.map fun k => .d (.int k)) ⟨[some (.d (.int seed)), some (.d m), some (.d (.int num)), sd o3], []⟩ = .ok .next ⟨[some (.d (.int seed')), some (.d m), some (.d (.int num')), sd o3'], []⟩ := by
  induction ks with
  | nil => intro seed num n o3 _ _ _ _ _ _; exact ⟨seed, num, o3, rfl⟩
  | cons k ks ih =>
    intro seed num n o3 h1 h2 h3 h4 h5 h6
    obtain ⟨hk1, hk2⟩ := h6 k (by simp)
    have hs := fmod_lo (a := seed * seed + 48271 * seed + 7919 * k + 11) (b := 99991) (by decide)
    have hs2 := fmod_lo (a := Int.fmod (seed * seed + 48271 * seed + 7919 * k + 11) 99991 * 69621 + 5 * k) (b := 99991) (by decide)
    have e1 := mul_lt (a := seed) (b := seed) 20 20 (by decide) (by decide) (by omega) (by omega) (by decide)
    have e2 := mul_lt (a := 48271) (b := seed) 20 20 (by decide) (by decide) (by decide) (by omega) (by decide)
    have e3 := mul_lt (a := 7919) (b := k) 20 20 (by decide) (by decide) (by decide) (by omega) (by decide)
    have e4 := mul_lt (a := 5) (b := k) 20 20 (by decide) (by decide) (by decide) (by omega) (by decide)
    have e5 := mul_lt (a := Int.fmod (seed * seed + 48271 * seed + 7919 * k + 11) 99991) (b := 69621) 20 20 (by decide) (by decide) (by omega) (by decide) (by decide)
    have e6 := mul_lt (a := num) (b := 99991) n 20 (by omega) (by decide) h3 (by decide) (by omega)
    have h7 : (num * 99991 + Int.fmod (Int.fmod (seed * seed + 48271 * seed + 7919 * k + 11) 99991 * 69621 + 5 * k) 99991).natAbs < 2 ^ (n + 20) := by
      rw [Nat.pow_add]
      generalize (2 : Nat) ^ n = P at *
      have : (2 : Nat) ^ 20 = 1048576 := by decide
      omega
    obtain ⟨s', n', o', e⟩ := ih _ _ (n + 20) (some (.int k)) hs.1 (by omega) h7 (by omega) (by simp at h5 ⊢; omega) (fun y hy => h6 y (by simp [hy]))
    refine ⟨s', n', o', ?_⟩
    simp [b__law_mixed_0, e1, e2, e3, e4, e5, e6] at e ⊢
    exact e
theorem mixed_ok {k : Nat} (hk : 1 ≤ k) (seed : Int) (many : Nat) (h : 0 ≤ seed ∧ seed < 200000) (hm : many ≤ 900) : ∃ v : Int, Phi tb fs k 12 [.d (.int seed), .d (.int many)] [] = .ret (.d (.int v)) [] := by
  obtain ⟨k, rfl, hj⟩ := lvl hk
  have hk := hj
  obtain ⟨s', n', o', e⟩ := mix_loop (Φ := Phi tb fs k) (.int many) ((List.range ((many : Int) - 0).toNat).map fun (k : Nat) => 0 + (k : Int)) seed 1 2 none h.1 h.2 (by decide) (by decide) (by simp; omega) (by
    intro x hx
    simp at hx
    omega)
  refine ⟨n', ?_⟩
  rw [P__law_mixed]
  have hs : smI (many : Int) = true := smI_ok (by omega)
  simp [f__law_mixed, hs, rangeL_eq, Function.comp_def] at e ⊢
  simp [e]
theorem pool_loop {k : Nat} (hk : 1 ≤ k) (s0 : D) (cs : List Int) : ∀ (vs : List Int) (total : Int) (o3 : Option D), 0 ≤ total → total < 100000 → vs.length + cs.length ≤ 1000 →
    ∃ (vs' : List Int) (total' : Int) (o3' : Option D), forGo (setOne 3) (evB tb (Phi tb fs k) 0 b__law_pool_0) [] 1 (cs.map fun k => .d (.int k)) ⟨[some (.d s0), some (.ref 0), some (.d (.int total)), sd o3], [.lst (vs.map .int)]⟩ = .ok .next ⟨[some (.d s0), some (.ref 0), some (.d (.int total')), sd o3'], [.lst (vs'.map .int)]⟩ ∧ 0 ≤ total' ∧ total' < 100000 ∧ vs'.length ≤ 1000 := by
  induction cs with
  | nil => intro vs total o3 h1 h2 h3; exact ⟨vs, total, o3, rfl, h1, h2, by simpa using h3⟩
  | cons c cs ih =>
    intro vs total o3 h1 h2 h3
    have hs := fmod_lo (a := total * 31 + c) (b := 99991) (by decide)
    have e1 := mul_lt (a := total) (b := 31) 20 20 (by decide) (by decide) (by omega) (by decide) (by decide)
    have hl : vs.length < LN := by simp [LN] at h3 ⊢; omega
    by_cases hc : (10 : Int) ^ 18 ≤ c
    · obtain ⟨vs', t', o', e, r⟩ := ih (vs ++ [Int.fmod c (1000 ^ 64)]) (Int.fmod (total * 31 + c) 99991) (some (.int c)) hs.1 (by omega) (by simp at h3 ⊢; omega)
      refine ⟨vs', t', o', ?_, r⟩
      simp [b__law_pool_0, e1, hc, hl] at e ⊢
      simp at hc
      simp [hc, hl]
      exact e
    · obtain ⟨v, hv⟩ := mixed_ok hk (Int.fmod (total * 31 + c) 99991) 4 ⟨hs.1, by omega⟩ (by decide)
      obtain ⟨vs', t', o', e, r⟩ := ih (vs ++ [v]) (Int.fmod (total * 31 + c) 99991) (some (.int c)) hs.1 (by omega) (by simp at h3 ⊢; omega)
      refine ⟨vs', t', o', ?_, r⟩
      simp at hc hv
      simp [b__law_pool_0, e1, hl, hv] at e ⊢
      simp [show ¬ (1000000000000000000 : Int) ≤ c by omega, hl]
      exact e
theorem pool_ok {k : Nat} (hk : 2 ≤ k) (ns : List Int) : ∃ vs : List Int, Phi tb fs k 1 [.d (.scr ns)] [] = .ret (.new (vs.map .int)) [] := by
  obtain ⟨k, rfl, hj⟩ := lvl hk
  have hk := hj
  obtain ⟨vs', t', o', e, h1, h2, h3⟩ := pool_loop (by omega : 1 ≤ k) (.scr ns) (ns.take 63) [] 7573 none (by decide) (by decide) (by simp; omega)
  obtain ⟨v, hv⟩ := mixed_ok (by omega : 1 ≤ k) (t' + 7) 20 ⟨by omega, by omega⟩ (by decide)
  refine ⟨vs' ++ [v], ?_⟩
  have hl : vs'.length < LN := by simp [LN]; omega
  rw [P__law_pool]
  have hc := cut_pre (ns.map D.int) 63 (by decide)
  rw [← List.map_take] at hc
  simp at hv hc
  simp [f__law_pool, hc, Function.comp_def] at e ⊢
  simp [e, hv, hl]
def takeI (ns : List Int) (m : Int) : Int × List Int := match ns with
  | [] => (0, [])
  | n :: r => (Int.fmod n m, if Int.fdiv n m = 0 then r else Int.fdiv n m :: r)
theorem take_run {k : Nat} (hk : 1 ≤ k) (ns : List Int) (m : Int) (hm : 0 < m) (hb : m < 1000000) : Phi tb fs k 5 [.ref 0, .d (.int m)] [.lst (ns.map .int)] = .ret (.d (.int (takeI ns m).1)) [.lst ((takeI ns m).2.map .int)] := by
  obtain ⟨k, rfl, hj⟩ := lvl hk
  have hk := hj
  rw [P__law_take]
  have h0 : m ≠ 0 := by omega
  have h1 : m.natAbs.log2 < 9000 := Nat.lt_trans (log_lt (k := 20) (by decide) (by omega)) (by decide)
  cases ns with
  | nil => simp [f__law_take, takeI]
  | cons n r =>
    have h3 : ¬ ((r.length : Int) + 1 = 0) := by omega
    by_cases hz : Int.fdiv n m = 0
    · simp [f__law_take, takeI, h0, h1, hz, h3]
    · simp [f__law_take, takeI, h0, h1, hz, h3]
/-- a draw -/
theorem take_ok {k : Nat} (hk : 1 ≤ k) (ns : List Int) (m : Int) (hm : 0 < m) (hb : m < 1000000) : ∃ (v : Int) (ns' : List Int), Phi tb fs k 5 [.ref 0, .d (.int m)] [.lst (ns.map .int)] = .ret (.d (.int v)) [.lst (ns'.map .int)] ∧ 0 ≤ v ∧ v < m := by
  refine ⟨_, _, take_run hk ns m hm hb, ?_⟩
  cases ns with
  | nil => exact ⟨Int.le_refl 0, hm⟩
  | cons n r => exact fmod_lo hm
/-! paths as block 1 draws them -/
theorem join_len (ts : List Tx) : (∀ t ∈ ts, t.length = 1) → (joinT [] ts).length = ts.length := by
  induction ts with
  | nil => intro _; rfl
  | cons t ts ih =>
    intro h
    cases ts with
    | nil => simp [joinT, h]
    | cons u ts =>
      have := ih (fun x hx => h x (by simp [hx]))
      have h1 := h t (by simp)
      simp [joinT] at this ⊢
      omega
theorem join_flat (ts : List Tx) : joinT [] ts = ts.flatten := by
  induction ts with
  | nil => rfl
  | cons t ts ih =>
    cases ts with
    | nil => simp [joinT]
    | cons u ts => simp [joinT, ih]
theorem flat_single (p : Tx) : (p.map fun c => [c]).flatten = p := by
  induction p with
  | nil => rfl
  | cons c p ih => simp [ih]
/-- a letter drawn -/
theorem letter_ix (v : Int) (h : 0 ≤ v ∧ v < 2) : ∃ c, atI [82, 76] v = some c ∧ (c = 82 ∨ c = 76) := by
  have : v = 0 ∨ v = 1 := by omega
  rcases this with rfl | rfl
  · exact ⟨82, rfl, .inl rfl⟩
  · exact ⟨76, rfl, .inr rfl⟩
theorem comp_letters {k : Nat} (hk : 1 ≤ k) (x1 x2 x3 : Sl) (o4 o5 o6 : Option Sl) (ks : List Int) : ∀ (vs : List Int) (acc : List D) (ρ0 : List (Option Sl)), acc.length + ks.length ≤ 1000 →
    ∃ (vs' : List Int) (p : Tx), compGo (fun s => .ok true s) (evE tb (Phi tb fs k) c__law_path_0) 4 [some (.ref 0), some x1, some x2, some x3, o4, o5, o6] (ks.map D.int) acc ⟨ρ0, [.lst (vs.map .int)]⟩
      = .ok (acc ++ p.map fun c => .str [c]) ⟨[some (.ref 0), some x1, some x2, some x3, o4, o5, o6], [.lst (vs'.map .int)]⟩ ∧ p.length = ks.length ∧ RL p := by
  induction ks with
  | nil => intro vs acc ρ0 _; exact ⟨vs, [], by simp, rfl, RL.nil⟩
  | cons x ks ih =>
    intro vs acc ρ0 hl
    obtain ⟨v, vs1, e, hv⟩ := take_ok hk vs 2 (by decide) (by decide)
    obtain ⟨c, hc1, hc2⟩ := letter_ix v hv
    obtain ⟨vs', p, e2, h1, h2⟩ := ih vs1 (acc ++ [.str [c]]) [some (.ref 0), some x1, some x2, some x3, some (.d (.int x)), o5, o6] (by simp at hl ⊢; omega)
    refine ⟨vs', c :: p, ?_, by simp [h1], RL.cons hc2 h2⟩
    have hl2 : acc.length < LN := by simp [LN] at hl ⊢; omega
    simp [c__law_path_0, e, hc1, hl2] at e2 ⊢
    exact e2
theorem runs_loop {k : Nat} (hk : 1 ≤ k) (m kd : D) (many turn : Int) (hm : 0 ≤ many ∧ many ≤ 1000) (ht : 0 ≤ turn ∧ turn < 2) (ks : List Int) : ∀ (vs : List Int) (p : Tx) (o4 : Option D), (∀ x ∈ ks, 0 ≤ x) → RL p → p.length ≤ 1010 →
    ∃ (vs' : List Int) (p' : Tx) (o4' : Option D), forGo (setOne 4) (evB tb (Phi tb fs k) 1 b__law_path_1) [] 1 (ks.map fun k => .d (.int k)) ⟨[some (.ref 0), some (.d m), some (.d kd), some (.d (.int many)), sd o4, some (.d (.int turn)), some (.d (.str p))], [.lst (vs.map .int)]⟩
      = .ok .next ⟨[some (.ref 0), some (.d m), some (.d kd), some (.d (.int many)), sd o4', some (.d (.int turn)), some (.d (.str p'))], [.lst (vs'.map .int)]⟩ ∧ RL p' ∧ p'.length ≤ 1010 := by
  induction ks with
  | nil => intro vs p o4 _ h h2; exact ⟨vs, p, o4, rfl, h, h2⟩
  | cons x ks ih =>
    intro vs p o4 hx hp hp2
    by_cases hc : (p.length : Int) < many
    · obtain ⟨v, vs1, e, hv⟩ := take_ok hk vs 4 (by decide) (by decide)
      have hf := fmod_lo (a := turn + x) (b := 2) (by decide)
      obtain ⟨c, hc1, hc2⟩ := letter_ix (Int.fmod (turn + x) 2) hf
      have hn : (v + 1).toNat ≤ 4 := by omega
      obtain ⟨vs', p', o', e2, h1, h2⟩ := ih vs1 (p ++ List.replicate (v + 1).toNat c) (some (.int x)) (fun y hy => hx y (by simp [hy])) (hp.app (RL.rep _ hc2)) (by simp; omega)
      refine ⟨vs', p', o', ?_, h1, h2⟩
      have c1 : v.toNat + 1 ≤ LN := by simp [LN]; omega
      have c2 : p.length + (v + 1).toNat ≤ LN := by simp [LN]; omega
      have c3 : (v + 1).toNat ≤ LN := by simp [LN]; omega
      have c4 : -(9223372036854775808 : Int) ≤ v + 1 ∧ v + 1 < 9223372036854775808 := by omega
      simp [b__law_path_1, hc, e, hc1, c2, c3, c4] at e2 ⊢
      exact e2
    · obtain ⟨vs', p', o', e2, h1, h2⟩ := ih vs p (some (.int x)) (fun y hy => hx y (by simp [hy])) hp hp2
      refine ⟨vs', p', o', ?_, h1, h2⟩
      simp [b__law_path_1, hc] at e2 ⊢
      exact e2
theorem path_ok {k : Nat} (hk : 2 ≤ k) (vs : List Int) (most : Int) (hm : 1 ≤ most ∧ most ≤ 900) : ∃ (p : Tx) (vs' : List Int), Phi tb fs k 2 [.ref 0, .d (.int most)] [.lst (vs.map .int)] = .ret (.d (.str p)) [.lst (vs'.map .int)] ∧ RL p ∧ (p.length : Int) ≤ max most 9 := by
  obtain ⟨k, rfl, hj⟩ := lvl hk
  have hk := hj
  obtain ⟨kind, vs1, e1, h1⟩ := take_ok hk vs 24 (by decide) (by decide)
  by_cases k3 : kind = 3
  · refine ⟨[], vs1, ?_, RL.nil, by simp; omega⟩
    rw [P__law_path]
    simp [f__law_path, e1, k3]
  by_cases k4 : kind = 4 ∨ kind = 5
  · obtain ⟨c, hc1, hc2⟩ := letter_ix (kind - 4) (by omega)
    refine ⟨[c], vs1, ?_, RL.cons hc2 RL.nil, by simp; omega⟩
    rw [P__law_path]
    rcases k4 with rfl | rfl <;> simp at hc1 <;> simp [f__law_path, e1, ← hc1]
  have k4' : ¬ kind = 4 := fun h => k4 (.inl h)
  have k5' : ¬ kind = 5 := fun h => k4 (.inr h)
  obtain ⟨many0, vs2, e2, h2⟩ := take_ok hk vs1 10 (by decide) (by decide)
  -- the number of letters
  have key : ∃ (many : Int) (vs3 : List Int), 0 ≤ many ∧ many ≤ max most 9 ∧ ∀ (b : Bl), evB tb (Phi tb fs k) 1 (.cons (.ifs (.cmp2 .le .lt (.cst (.int 6)) (.var 2) (.cst (.int 12)))
 (.cons (.set 3 (.call 5 (.cons (.var 0) (.cons (.bin .add (.var 1) (.cst (.int 1))) .nil))))
 .nil)
 .nil)
 (.cons (.ifs (.cmp .lt (.var 2) (.cst (.int 3)))
 (.cons (.set 3 (.var 1))
 .nil)
 .nil) b)) ⟨[some (.ref 0), some (.d (.int most)), some (.d (.int kind)), some (.d (.int many0)), none, none, none], [.lst (vs2.map .int)]⟩
    = evB tb (Phi tb fs k) 1 b ⟨[some (.ref 0), some (.d (.int most)), some (.d (.int kind)), some (.d (.int many)), none, none, none], [.lst (vs3.map .int)]⟩ := by
    by_cases c1 : 6 ≤ kind ∧ kind < 12
    · obtain ⟨m, vs3, e3, h3⟩ := take_ok hk vs2 (most + 1) (by omega) (by omega)
      refine ⟨m, vs3, h3.1, by omega, fun b => ?_⟩
      have c3 : ¬ kind < 3 := by omega
      simp [c1, e3, c3]
    · by_cases c2 : kind < 3
      · refine ⟨most, vs2, by omega, by omega, fun b => ?_⟩
        have c3 : ¬ 6 ≤ kind := by omega
        simp [c2, c3]
      · refine ⟨many0, vs2, by omega, by omega, fun b => ?_⟩
        by_cases c3 : 6 ≤ kind
        · have c4 : ¬ kind < 12 := by omega
          simp [c2, c3, c4]
        · simp [c2, c3]
  obtain ⟨many, vs3, m1, m2, key⟩ := key
  have hs : smI many = true := smI_ok (by omega)
  by_cases kk : Int.fmod kind 3 = 2
  · obtain ⟨turn, vs4, e4, h4⟩ := take_ok hk vs3 2 (by decide) (by decide)
    obtain ⟨vs', p', o', e5, r1, r2⟩ := runs_loop hk (.int most) (.int kind) many turn (by omega) h4 ((List.range (many - 0).toNat).map fun (k : Nat) => 0 + (k : Int)) vs4 [] none (by intro x hx; simp at hx; omega) RL.nil (by simp)
    refine ⟨p'.take many.toNat, vs', ?_, r1.take _, by simp; omega⟩
    rw [P__law_path]
    have hc := cut_pre p' many m1
    simp [Function.comp_def] at e5
    simp [f__law_path, e1, k3, k4', k5', e2, key, kk, e4, hs, rangeL_eq, Function.comp_def, e5, hc]
  · obtain ⟨vs', p, e5, r1, r2⟩ := comp_letters hk (.d (.int most)) (.d (.int kind)) (.d (.int many)) none none none ((List.range (many - 0).toNat).map fun (k : Nat) => 0 + (k : Int)) vs3 [] [some (.ref 0), some (.d (.int most)), some (.d (.int kind)), some (.d (.int many)), none, none, none] (by simp; omega)
    refine ⟨p, vs', ?_, r2, by rw [r1]; simp; omega⟩
    rw [P__law_path]
    have hj : joinT [] (p.map fun c => [c]) = p := by rw [join_flat, flat_single]
    have hl : p.length ≤ LN := by rw [r1]; simp [LN]; omega
    have hd : (p.map fun c => D.str [c]) = (p.map fun c => [c]).map .str := by simp
    simp [Function.comp_def] at e5
    simp [f__law_path, e1, k3, k4', k5', e2, key, kk, hs, rangeL_eq, Function.comp_def, e5]
    rw [hd, strsD_map]
    simp [hj, hl]
theorem second_gen {k : Nat} (hk : 3 ≤ k) (vs : List Int) (one : Tx) (h1 : RL one) (h2 : one.length ≤ 900) (most : Int) (hm : 9 ≤ most ∧ most ≤ 900) : ∃ (p : Tx) (vs' : List Int), Phi tb fs k 3 [.ref 0, .d (.str one), .d (.int most)] [.lst (vs.map .int)] = .ret (.d (.str p)) [.lst (vs'.map .int)] ∧ RL p ∧ (p.length : Int) ≤ max most one.length := by
  obtain ⟨k, rfl, hj⟩ := lvl hk
  have hk := hj
  obtain ⟨kind, vs1, e1, k1⟩ := take_ok (by omega : 1 ≤ k) vs 6 (by decide) (by decide)
  obtain ⟨place, vs2, e2, k2⟩ := take_ok (by omega : 1 ≤ k) vs1 (one.length + 1) (by omega) (by omega)
  obtain ⟨l, vs3, e3, k3⟩ := take_ok (by omega : 1 ≤ k) vs2 2 (by decide) (by decide)
  obtain ⟨c, hc1, hc2⟩ := letter_ix l k3
  obtain ⟨other, vs4, e4, k4, k5⟩ := path_ok hk vs3 most (by omega)
  have hp := cut_pre one place k2.1
  have hq : ∀ p : Tx, cut p none (some most) = p.take most.toNat := fun p => cut_pre p most (by omega)
  have a1 : one.length + 1 ≤ LN := by simp [LN]; omega
  have a2 : one.length + (other.length + 1) ≤ LN := by simp [LN]; omega
  have a3 : one.length + 1 + other.length ≤ LN := by simp [LN]; omega
  -- the other path ahead of the two comparisons
  have key : ∃ q : Tx, RL q ∧ (q.length : Int) ≤ max most one.length ∧ ∀ b : Bl, evB tb (Phi tb fs k) 1 (.cons (.ifs (.cmp .eq (.var 3) (.cst (.int 0)))
 (.cons (.set 6 (.sl (.var 1) .none (.some (.var 4))))
 .nil)
 .nil)
 (.cons (.ifs (.cmp .eq (.var 3) (.cst (.int 1)))
 (.cons (.set 6 (.sl (.bin .add (.bin .add (.var 1) (.var 5)) (.var 6)) .none (.some (.var 2))))
 .nil)
 .nil)
 (.cons (.ifs (.cmp .eq (.var 3) (.cst (.int 2)))
 (.cons (.set 6 (.sl (.bin .add (.bin .add (.sl (.var 1) .none (.some (.var 4))) (.var 5)) (.var 6)) .none (.some (.var 2))))
 .nil)
 .nil) b))) ⟨[some (.ref 0), some (.d (.str one)), some (.d (.int most)), some (.d (.int kind)), some (.d (.int place)), some (.d (.str [c])), some (.d (.str other))], [.lst (vs4.map .int)]⟩
   = evB tb (Phi tb fs k) 1 b ⟨[some (.ref 0), some (.d (.str one)), some (.d (.int most)), some (.d (.int kind)), some (.d (.int place)), some (.d (.str [c])), some (.d (.str q))], [.lst (vs4.map .int)]⟩ := by
    by_cases z0 : kind = 0
    · exact ⟨one.take place.toNat, h1.take _, by simp; omega, fun b => by simp [z0, hp]⟩
    by_cases z1 : kind = 1
    · refine ⟨(one ++ c :: other).take most.toNat, (h1.app (RL.cons hc2 k4)).take _, by simp; omega, fun b => ?_⟩
      simp [z1, hq, a1, a2, a3]
    by_cases z2 : kind = 2
    · refine ⟨((one.take place.toNat) ++ c :: other).take most.toNat, ((h1.take _).app (RL.cons hc2 k4)).take _, by simp; omega, fun b => ?_⟩
      have b1 : min place.toNat one.length + 1 ≤ LN := by simp [LN]; omega
      have b2 : min place.toNat one.length + 1 + other.length ≤ LN := by simp [LN]; omega
      have b3 : min place.toNat one.length + (other.length + 1) ≤ LN := by simp [LN]; omega
      simp [z2, hp, hq, b1, b2, b3]
    · exact ⟨other, k4, by omega, fun b => by simp [z0, z1, z2]⟩
  obtain ⟨q, q1, q2, key⟩ := key
  have key2 : ∃ r : Tx, RL r ∧ (r.length : Int) ≤ max most one.length ∧ Phi tb fs (k + 1) 3 [.ref 0, .d (.str one), .d (.int most)] [.lst (vs.map .int)] = .ret (.d (.str r)) [.lst (vs4.map .int)] := by
    rw [P__law_second]
    by_cases y : q = one
    · by_cases y2 : one.dropLast = one
      · refine ⟨[c], RL.cons hc2 RL.nil, by simp; omega, ?_⟩
        simp [f__law_second, e1, e2, e3, hc1, e4, key, y, y2]
      · refine ⟨one.dropLast, h1.dropLast, by simp; omega, ?_⟩
        simp [f__law_second, e1, e2, e3, hc1, e4, key, y, y2]
    · refine ⟨q, q1, q2, ?_⟩
      simp [f__law_second, e1, e2, e3, hc1, e4, key, y]
  obtain ⟨r, r1, r2, r3⟩ := key2
  exact ⟨r, vs4, r3, r1, r2⟩
theorem second_ok {k : Nat} (hk : 3 ≤ k) (vs : List Int) (one : Tx) (h1 : RL one) (h2 : one.length ≤ 900) (most : Int) (hm : 9 ≤ most ∧ most ≤ 900) (h3 : (one.length : Int) ≤ most) : ∃ (p : Tx) (vs' : List Int), Phi tb fs k 3 [.ref 0, .d (.str one), .d (.int most)] [.lst (vs.map .int)] = .ret (.d (.str p)) [.lst (vs'.map .int)] ∧ RL p ∧ (p.length : Int) ≤ most := by
  obtain ⟨p, vs', e, r, l⟩ := second_gen hk vs one h1 h2 most hm
  exact ⟨p, vs', e, r, by omega⟩
theorem sign_ok {k : Nat} (hk : 2 ≤ k) (vs : List Int) : ∃ (c : Nat) (vs' : List Int), Phi tb fs k 4 [.ref 0] [.lst (vs.map .int)] = .ret (.d (.str [c])) [.lst (vs'.map .int)] ∧ c ≠ 82 ∧ c ≠ 76 := by
  obtain ⟨k, rfl, hj⟩ := lvl hk
  have hk := hj
  obtain ⟨v, vs1, e1, k1⟩ := take_ok hk vs 92 (by decide) (by decide)
  have hx : ∀ s : Tx, s.length = 92 → (∀ c ∈ s, c ≠ 82 ∧ c ≠ 76) → ∃ c, atI s v = some c ∧ c ≠ 82 ∧ c ≠ 76 := by
    intro s hl hs
    rw [atI_of s v k1.1]
    have : v.toNat < s.length := by omega
    exact ⟨s[v.toNat], List.getElem?_eq_getElem this, hs _ (List.getElem_mem this)⟩
  obtain ⟨c, c1, c2⟩ := hx [32, 33, 34, 35, 36, 38, 39, 40, 41, 42, 43, 44, 45, 46, 47, 48, 49, 50, 51, 52, 53, 54, 55, 56, 57, 58, 59, 60, 61, 62, 63, 64, 65, 66, 67, 68, 69, 70, 71, 72, 73, 74, 75, 77, 78, 79, 80, 81, 83, 84, 85, 86, 87, 88, 89, 90, 91, 92, 93, 94, 95, 96, 97, 98, 99, 100, 101, 102, 103, 104, 105, 106, 107, 108, 109, 110, 111, 112, 113, 114, 115, 116, 117, 118, 119, 120, 121, 122, 123, 124, 125, 126] (by decide) (by decide)
  refine ⟨c, vs1, ?_, c2⟩
  rw [P__law_sign]
  simp [f__law_sign, LN, e1, c1]
/-! check_path, the fraction of a path by mediants -/
theorem check_loop {Φ : Nat → FM} (p0 : D) (p : Tx) : ∀ (o : Option D), RL p → ∃ o' : Option D, forGo (setOne 1) (evB tb Φ 0 b_check_path_0) [] 0 (p.map fun c => .d (.str [c])) ⟨[some (.d p0), sd o], []⟩ = .ok .next ⟨[some (.d p0), sd o'], []⟩ := by
  induction p with
  | nil => intro o _; exact ⟨o, rfl⟩
  | cons c p ih =>
    intro o h
    obtain ⟨o', e⟩ := ih (some (.str [c])) h.tail
    refine ⟨o', ?_⟩
    rcases h.head with rfl | rfl
    · simp [b_check_path_0] at e ⊢; exact e
    · simp [b_check_path_0] at e ⊢; exact e
theorem check_bad {Φ : Nat → FM} (p0 : Tx) (hl : p0.length ≤ 100000) (p : Tx) : ∀ (o : Option D), ¬ RL p → ∃ s, forGo (setOne 1) (evB tb Φ 0 b_check_path_0) [] 0 (p.map fun c => .d (.str [c])) ⟨[some (.d (.str p0)), sd o], []⟩ = .exc 4 [.str p0] s := by
  induction p with
  | nil => intro o h; exact (h RL.nil).elim
  | cons c p ih =>
    intro o h
    by_cases hc : c = 82 ∨ c = 76
    · obtain ⟨s, e⟩ := ih (some (.str [c])) (fun h' => h (RL.cons hc h'))
      refine ⟨s, ?_⟩
      rcases hc with rfl | rfl
      · simp [b_check_path_0] at e ⊢; exact e
      · simp [b_check_path_0] at e ⊢; exact e
    · have c1 : ¬ c = 82 := fun h => hc (.inl h)
      have c2 : ¬ c = 76 := fun h => hc (.inr h)
      refine ⟨⟨[some (.d (.str p0)), some (.d (.str [c]))], []⟩, ?_⟩
      simp [b_check_path_0, c1, c2, raiOk, hl]
theorem check_ok {k : Nat} (hk : 1 ≤ k) (p : Tx) (h : RL p) (hl : p.length ≤ 60) : Phi tb fs k 17 [.d (.str p)] [] = .ret (.d .non) [] := by
  obtain ⟨k, rfl, hj⟩ := lvl hk
  obtain ⟨o', e⟩ := check_loop (Φ := Phi tb fs k) (.str p) p none h
  rw [P_check_path]
  have : ¬ (60 : Int) < p.length := by omega
  simp [f_check_path, Function.comp_def] at e ⊢
  simp [e, this]
theorem check_deep {k : Nat} (hk : 1 ≤ k) (p : Tx) (h : RL p) (hl : 60 < p.length) : Phi tb fs k 17 [.d (.str p)] [] = .exc 5 [.int 60] [] := by
  obtain ⟨k, rfl, hj⟩ := lvl hk
  obtain ⟨o', e⟩ := check_loop (Φ := Phi tb fs k) (.str p) p none h
  rw [P_check_path]
  have h1 : (60 : Int) < p.length := by omega
  have h2 : Nat.log2 60 < 1900 := by decide
  simp [f_check_path, Function.comp_def] at e ⊢
  simp [e, h1, raiOk, h2]
theorem check_not {k : Nat} (hk : 1 ≤ k) (p : Tx) (h : ¬ RL p) (hl : p.length ≤ 100000) : Phi tb fs k 17 [.d (.str p)] [] = .exc 4 [.str p] [] := by
  obtain ⟨k, rfl, hj⟩ := lvl hk
  obtain ⟨s, e⟩ := check_bad (Φ := Phi tb fs k) p hl p none h
  rw [P_check_path]
  simp [f_check_path, Function.comp_def] at e ⊢
  simp [e]
theorem med_loop {Φ : Nat → FM} (p0 : D) (p : Tx) : ∀ (a b c d : Int) (o3 o4 : Option D), ∃ (a' b' c' d' : Int) (o3' o4' : Option D),
    forGo (setOne 3) (evB tb Φ 0 b__law_mediant_0) [] 0 (p.map fun c => .d (.str [c])) ⟨[some (.d p0), some (.d (.tup [.int a, .int b])), some (.d (.tup [.int c, .int d])), sd o3, sd o4], []⟩
      = .ok .next ⟨[some (.d p0), some (.d (.tup [.int a', .int b'])), some (.d (.tup [.int c', .int d'])), sd o3', sd o4'], []⟩
    ∧ a' + c' = a * (F p).2 + c * (F p).1 ∧ b' + d' = b * (F p).2 + d * (F p).1 := by
  induction p with
  | nil => intro a b c d o3 o4; exact ⟨a, b, c, d, o3, o4, rfl, by simp [F], by simp [F]⟩
  | cons x p ih =>
    intro a b c d o3 o4
    by_cases hx : x = 82
    · obtain ⟨a', b', c', d', o3', o4', h1, h2, h3⟩ := ih (a + c) (b + d) c d (some (.str [x])) (some (.tup [.int (a + c), .int (b + d)]))
      refine ⟨a', b', c', d', o3', o4', ?_, ?_, ?_⟩
      · simp [b__law_mediant_0, hx] at h1 ⊢
        exact h1
      · rw [h2]; simp [F, hx]; grind
      · rw [h3]; simp [F, hx]; grind
    · obtain ⟨a', b', c', d', o3', o4', h1, h2, h3⟩ := ih a b (a + c) (b + d) (some (.str [x])) (some (.tup [.int (a + c), .int (b + d)]))
      refine ⟨a', b', c', d', o3', o4', ?_, ?_, ?_⟩
      · simp [b__law_mediant_0, hx] at h1 ⊢
        exact h1
      · rw [h2]; simp [F, hx]; grind
      · rw [h3]; simp [F, hx]; grind
theorem mediant_ok {k : Nat} (hk : 1 ≤ k) (p : Tx) : Phi tb fs k 13 [.d (.str p)] [] = .ret (.d (.tup [.int (F p).1, .int (F p).2])) [] := by
  obtain ⟨k, rfl, hj⟩ := lvl hk
  obtain ⟨a', b', c', d', o3', o4', h1, h2, h3⟩ := med_loop (Φ := Phi tb fs k) (.str p) p 0 1 1 0 none none
  rw [P__law_mediant]
  simp [f__law_mediant, Function.comp_def] at h1 ⊢
  simp [h1, h2, h3]
end L07

set_option linter.all false
set_option maxRecDepth 100000
namespace L07
open GF
/-! the states of a path -/
structure NS where
  q : Tx
  lo : Int × Int
  hi : Int × Int
  w : Int
def NS.m (s : NS) : Int × Int := (s.lo.1 + s.hi.1, s.lo.2 + s.hi.2)
def nx (s : NS) (c : Nat) : NS := if c = 82 then ⟨s.q ++ [c], s.m, s.hi, s.w + 1⟩ else ⟨s.q ++ [c], s.lo, s.m, 1⟩
def runS (s : NS) (p : Tx) : NS := p.foldl nx s
def s0 : NS := ⟨[], (0, 1), (1, 0), 0⟩
def fr (x : Int × Int) : D := .obj 6 [.int x.1, .int x.2]
def tp (x : Int × Int) : D := .tup [.int x.1, .int x.2]
def ndD (s : NS) : D := .obj 7 [.str s.q, fr s.m, fr s.lo, fr s.hi, .int s.w]
def rwD (s : NS) : D := .lst [.str s.q, tp s.m, tp s.lo, tp s.hi, .int s.w]
structure GoodS (s : NS) : Prop where
  l1 : 0 ≤ s.lo.1
  l2 : 0 ≤ s.lo.2
  h1 : 0 ≤ s.hi.1
  h2 : 0 ≤ s.hi.2
  det : s.hi.1 * s.lo.2 - s.lo.1 * s.hi.2 = 1
theorem good0 : GoodS s0 := ⟨by decide, by decide, by decide, by decide, by decide⟩
theorem GoodS.nx {s : NS} (h : GoodS s) (c : Nat) : GoodS (nx s c) := by
  obtain ⟨a, b, d, e, f⟩ := h
  unfold L07.nx
  split
  · refine ⟨?_, ?_, d, e, ?_⟩ <;> simp only [NS.m] <;> first | omega | (rw [← f]; grind)
  · refine ⟨a, b, ?_, ?_, ?_⟩ <;> simp only [NS.m] <;> first | omega | (rw [← f]; grind)
theorem GoodS.pos {s : NS} (h : GoodS s) : 1 ≤ s.lo.2 ∧ 1 ≤ s.hi.1 := by
  obtain ⟨a, b, d, e, f⟩ := h
  have h3 : 0 ≤ s.lo.1 * s.hi.2 := Int.mul_nonneg a e
  constructor
  · rcases Int.lt_or_le 0 s.lo.2 with h | h
    · exact h
    · have : s.lo.2 = 0 := by omega
      rw [this] at f; simp at f; omega
  · rcases Int.lt_or_le 0 s.hi.1 with h | h
    · exact h
    · have : s.hi.1 = 0 := by omega
      rw [this] at f; simp at f; omega
theorem gcd_one {a b x y : Int} (h : a * x - b * y = 1) : Nat.gcd b.natAbs x.natAbs = 1 := by
  have h1 : ((Nat.gcd b.natAbs x.natAbs : Nat) : Int) ∣ b := Int.ofNat_dvd_left.mpr (Nat.gcd_dvd_left _ _)
  have h2 : ((Nat.gcd b.natAbs x.natAbs : Nat) : Int) ∣ x := Int.ofNat_dvd_left.mpr (Nat.gcd_dvd_right _ _)
  have h3 : ((Nat.gcd b.natAbs x.natAbs : Nat) : Int) ∣ 1 := by
    rw [← h]
    exact Int.dvd_sub (Int.dvd_mul_of_dvd_right h2) (Int.dvd_mul_of_dvd_left h1)
  have := Int.ofNat_dvd_left.mp h3
  simpa using this
/-! Frac, Node -/
theorem frac_init {k : Nat} (hk : 1 ≤ k) (t b : Int) (hg : Nat.gcd t.natAbs b.natAbs = 1) (hb : 0 < b ∨ (b = 0 ∧ 0 < t)) : Phi tb fs k 22 [.ref 0, .d (.int t), .d (.int b)] [.obj 6 []] = .ret (.d .non) [.obj 6 [.int t, .int b]] := by
  obtain ⟨k, rfl, hj⟩ := lvl hk
  rw [P_Frac___init__]
  have hlog : Nat.log2 1 < 9000 := by decide
  rcases hb with hb | ⟨rfl, ht⟩
  · have h1 : ¬ b = 0 := by omega
    have h2 : ¬ b < 0 := by omega
    simp [f_Frac___init__, h1, h2, hg, hlog]
  · have h1 : ¬ t = 0 := by omega
    have h2 : ¬ t < 0 := by omega
    simp at hg
    simp [f_Frac___init__, h1, h2, hg, hlog]
theorem frac_mk {k : Nat} (hk : 1 ≤ k) (x : Int × Int) (hg : Nat.gcd x.1.natAbs x.2.natAbs = 1) (hb : 0 < x.2 ∨ (x.2 = 0 ∧ 0 < x.1)) (s : S) : makeF tb (Phi tb fs k 22) 6 (fun z => [z, .d (.int x.1), .d (.int x.2)]) s = .ok (.d (fr x)) s :=
  makeF_d s (fun _ => rfl) rfl rfl (frac_init hk x.1 x.2 hg hb) (by simp) (by simp)
theorem node_init {k : Nat} (hk : 1 ≤ k) (a b c d e : D) : Phi tb fs k 21 [.ref 0, .d a, .d b, .d c, .d d, .d e] [.obj 7 []] = .ret (.d .non) [.obj 7 [a, b, c, d, e]] := by
  obtain ⟨k, rfl, hj⟩ := lvl hk
  rw [P_Node___init__]
  simp [f_Node___init__]
theorem node_mk {k : Nat} (hk : 1 ≤ k) (a b c d e : D) (s : S) : makeF tb (Phi tb fs k 21) 7 (fun z => [z, .d a, .d b, .d c, .d d, .d e]) s = .ok (.d (.obj 7 [a, b, c, d, e])) s :=
  makeF_d s (fun _ => rfl) rfl rfl (node_init hk a b c d e) (by simp) (by simp)
theorem root_ok {k : Nat} (hk : 2 ≤ k) : Phi tb fs k 18 [] [] = .ret (.d (ndD s0)) [] := by
  obtain ⟨k, rfl, hj⟩ := lvl hk
  have m1 := frac_mk (by omega : 1 ≤ k) (1, 1) (by decide) (by decide)
  have m2 := frac_mk (by omega : 1 ≤ k) (0, 1) (by decide) (by decide)
  have m3 := frac_mk (by omega : 1 ≤ k) (1, 0) (by decide) (by decide)
  have m4 := node_mk (by omega : 1 ≤ k)
  rw [P__root]
  simp at m1 m2 m3
  simp [f__root, permute, m1, m2, m3, m4, ndD, s0, NS.m]
theorem fr_m {k : Nat} (hk : 1 ≤ k) {n : NS} (h : GoodS n) (s : S) : makeF tb (Phi tb fs k 22) 6 (fun z => [z, .d (.int n.m.1), .d (.int n.m.2)]) s = .ok (.d (fr n.m)) s := by
  refine frac_mk hk n.m ?_ ?_ s
  · refine gcd_one (a := n.hi.1) (y := n.hi.2) ?_
    rw [← h.det]; simp only [NS.m]; grind
  · have := h.pos; have := h.h2; simp only [NS.m]; left; omega
theorem child_ok {k : Nat} (hk : 2 ≤ k) (n : NS) (h : GoodS n) (c : Nat) (hl : n.q.length + 1 ≤ LN) : Phi tb fs k 19 [.d (ndD n), .d (.str [c])] [] = .ret (.d (ndD (nx n c))) [] := by
  obtain ⟨k, rfl, hj⟩ := lvl hk
  have m4 := node_mk (by omega : 1 ≤ k)
  have m1 := fr_m (by omega : 1 ≤ k) (h.nx c)
  rw [P__child]
  by_cases hc : c = 82
  · subst hc
    simp [nx, NS.m] at m1
    simp [f__child, ndD, fr, permute, m4, nx, NS.m, hl, m1]
  · simp [nx, NS.m, hc] at m1
    simp [f__child, ndD, fr, permute, m4, nx, NS.m, hl, hc, m1]
end L07

set_option linter.all false
set_option maxRecDepth 100000
namespace L07
open GF
/-! way, node_at, the fields of a Node -/
def scan (s : NS) : Tx → List NS
  | [] => []
  | c :: p => nx s c :: scan (nx s c) p
theorem nx_q (s : NS) (c : Nat) : (nx s c).q = s.q ++ [c] := by unfold nx; split <;> rfl
theorem scan_last : ∀ (p : Tx) (s : NS), ∃ ys, s :: scan s p = ys ++ [runS s p]
  | [], s => ⟨[], rfl⟩
  | c :: p, s => by
    obtain ⟨ys, h⟩ := scan_last p (nx s c)
    exact ⟨s :: ys, by rw [scan, h]; rfl⟩
theorem way_loop {k : Nat} (hk : 2 ≤ k) (d0 : D) (p : Tx) : ∀ (s : NS) (xs : List D) (o : Option D), GoodS s → s.q.length + p.length ≤ 1000 → xs.length + p.length ≤ 1000 → ∃ o' : Option D,
    forGo (setOne 2) (evB tb (Phi tb fs k) 0 b_way_0) [] 1 (p.map fun c => .d (.str [c])) ⟨[some (.d d0), some (.ref 0), sd o], [.lst (xs ++ [ndD s])]⟩
      = .ok .next ⟨[some (.d d0), some (.ref 0), sd o'], [.lst (xs ++ (ndD s :: (scan s p).map ndD))]⟩ := by
  induction p with
  | nil => intro s xs o _ _ _; exact ⟨o, rfl⟩
  | cons c p ih =>
    intro s xs o h h1 h2
    have hq : (nx s c).q.length = s.q.length + 1 := by rw [nx_q]; simp
    obtain ⟨o', e⟩ := ih (nx s c) (xs ++ [ndD s]) (some (.str [c])) (h.nx c) (by simp at h1; omega) (by simp at h2 ⊢; omega)
    refine ⟨o', ?_⟩
    have hl : s.q.length + 1 ≤ LN := by simp [LN] at h1 ⊢; omega
    have a1 := child_ok hk s h c hl
    have a2 : atI (xs ++ [ndD s]) (-1) = some (ndD s) := atI_last xs (ndD s)
    have a3 : xs.length + 1 < LN := by simp [LN] at h2 ⊢; omega
    simp [b_way_0, a1, a2, a3, scan] at e ⊢
    exact e
theorem way_ok {k : Nat} (hk : 3 ≤ k) (p : Tx) (h : RL p) (hl : p.length ≤ 60) : Phi tb fs k 10 [.d (.str p)] [] = .ret (.new (ndD s0 :: (scan s0 p).map ndD)) [] := by
  obtain ⟨k, rfl, hj⟩ := lvl hk
  have a1 := check_ok (by omega : 1 ≤ k) p h hl
  have a2 := root_ok (by omega : 2 ≤ k)
  obtain ⟨o', e⟩ := way_loop (by omega : 2 ≤ k) (.str p) p s0 [] none good0 (by simp [s0]; omega) (by simp; omega)
  rw [P_way]
  simp [Function.comp_def] at e
  simp [f_way, a1, a2, patF_mk tb_p2, permute, Function.comp_def, e]
theorem nodeAt_ok {k : Nat} (hk : 4 ≤ k) (p : Tx) (h : RL p) (hl : p.length ≤ 60) : Phi tb fs k 8 [.d (.str p)] [] = .ret (.d (ndD (runS s0 p))) [] := by
  obtain ⟨k, rfl, hj⟩ := lvl hk
  have a1 := way_ok (by omega : 3 ≤ k) p h hl
  obtain ⟨ys, hy⟩ := scan_last p s0
  have e : ndD s0 :: (scan s0 p).map ndD = ys.map ndD ++ [ndD (runS s0 p)] := by
    have := congrArg (List.map ndD) hy
    simpa using this
  have a2 : atI (ys.map ndD ++ [ndD (runS s0 p)]) (-1) = some (ndD (runS s0 p)) := atI_last _ _
  rw [e] at a1
  rw [P_node_at]
  simp [f_node_at, a1, a2]
theorem way_deep {k : Nat} (hk : 3 ≤ k) (p : Tx) (h : RL p) (hl : 60 < p.length) : Phi tb fs k 10 [.d (.str p)] [] = .exc 5 [.int 60] [] := by
  obtain ⟨k, rfl, hj⟩ := lvl hk
  have a1 := check_deep (by omega : 1 ≤ k) p h hl
  rw [P_way]
  simp [f_way, a1]
theorem way_not {k : Nat} (hk : 3 ≤ k) (p : Tx) (h : ¬ RL p) (hl : p.length ≤ 100000) : Phi tb fs k 10 [.d (.str p)] [] = .exc 4 [.str p] [] := by
  obtain ⟨k, rfl, hj⟩ := lvl hk
  have a1 := check_not (by omega : 1 ≤ k) p h hl
  rw [P_way]
  simp [f_way, a1]
theorem nodeAt_deep {k : Nat} (hk : 4 ≤ k) (p : Tx) (h : RL p) (hl : 60 < p.length) : Phi tb fs k 8 [.d (.str p)] [] = .exc 5 [.int 60] [] := by
  obtain ⟨k, rfl, hj⟩ := lvl hk
  have a1 := way_deep (by omega : 3 ≤ k) p h hl
  rw [P_node_at]
  simp [f_node_at, a1]
theorem nodeAt_not {k : Nat} (hk : 4 ≤ k) (p : Tx) (h : ¬ RL p) (hl : p.length ≤ 100000) : Phi tb fs k 8 [.d (.str p)] [] = .exc 4 [.str p] [] := by
  obtain ⟨k, rfl, hj⟩ := lvl hk
  have a1 := way_not (by omega : 3 ≤ k) p h hl
  rw [P_node_at]
  simp [f_node_at, a1]
theorem whole_int {k : Nat} (hk : 1 ≤ k) (i : Int) : Phi tb fs k 15 [.d (.int i)] [] = .ret (.d (.bl true)) [] := by
  obtain ⟨k, rfl, hj⟩ := lvl hk
  rw [P__law_whole]
  simp [f__law_whole]
theorem lfrac_ok {k : Nat} (hk : 2 ≤ k) (x : Int × Int) : Phi tb fs k 16 [.d (fr x)] [] = .ret (.d (tp x)) [] := by
  obtain ⟨k, rfl, hj⟩ := lvl hk
  have a1 := whole_int (by omega : 1 ≤ k)
  rw [P__law_frac]
  simp [f__law_frac, fr, a1, tp]
def rwL (s : NS) : List D := [.str s.q, tp s.m, tp s.lo, tp s.hi, .int s.w]
theorem lnode_ok {k : Nat} (hk : 3 ≤ k) (s : NS) : Phi tb fs k 7 [.d (ndD s)] [] = .ret (.new (rwL s)) [] := by
  obtain ⟨k, rfl, hj⟩ := lvl hk
  have a1 := whole_int (by omega : 1 ≤ k)
  have a2 := lfrac_ok (by omega : 2 ≤ k)
  rw [P__law_node]
  simp [f__law_node, ndD, a1, a2, rwL]
theorem rows_comp {k : Nat} (hk : 3 ≤ k) (all : List D) (d0 : D) (o2 : Option Sl) (ss : List NS) : ∀ (acc : List D) (ρ : List (Option Sl)), acc.length + ss.length ≤ 1000 →
    compGoC (evE tb (Phi tb fs k) c__law_way_told_0) 3 0 all [some (.d d0), some (.ref 0), o2, none] (ss.map ndD) acc ⟨ρ, [.lst all]⟩ = .ok (acc ++ ss.map rwD) ⟨[some (.d d0), some (.ref 0), o2, none], [.lst all]⟩ := by
  induction ss with
  | nil => intro acc ρ _; rw [List.map_nil, compC_nil _ _ _ _ _ _ _ rfl]; simp
  | cons s ss ih =>
    intro acc ρ hl
    have a1 := lnode_ok hk s
    rw [List.map_cons, compC_cons (y := rwD s) (s2 := ⟨[some (.d d0), some (.ref 0), o2, some (.d (ndD s))], [.lst all]⟩) (h := rfl) (hl := by simp [LN] at hl ⊢; omega)]
    · rw [ih _ _ (by simp at hl ⊢; omega)]
      simp
    · simp [c__law_way_told_0, a1, rwD, rwL]
theorem wayTold_ok {k : Nat} (hk : 4 ≤ k) (p : Tx) (h : RL p) (hl : p.length ≤ 60) : Phi tb fs k 9 [.d (.str p)] [] = .ret (.d (.lst ((s0 :: scan s0 p).map rwD))) [] := by
  obtain ⟨k, rfl, hj⟩ := lvl hk
  have a1 := way_ok (by omega : 3 ≤ k) p h hl
  have sl : ∀ (p : Tx) (s : NS), (scan s p).length = p.length := by
    intro p
    induction p with
    | nil => intro s; rfl
    | cons c p ih => intro s; simp [scan, ih]
  have a2 := rows_comp (by omega : 3 ≤ k) ((s0 :: scan s0 p).map ndD) (.str p) none (s0 :: scan s0 p) [] [some (.d (.str p)), some (.ref 0), none, none] (by simp [sl]; omega)
  have a3 : (scan s0 p).length + 1 < LN := by rw [sl]; simp [LN]; omega
  rw [P__law_way_told]
  simp at a2
  have a4 : isiS tb [D.lst (ndD s0 :: List.map ndD (scan s0 p))] (.ref 0) .list = some true := rfl
  simp [f__law_way_told, a1, a2, a3, a4, ixN]
end L07

set_option linter.all false
set_option maxRecDepth 100000
namespace L07
open GF
/-! what is due -/
theorem run_m : ∀ (p : Tx) (s : NS), (runS s p).m = (s.lo.1 * (F p).2 + s.hi.1 * (F p).1, s.lo.2 * (F p).2 + s.hi.2 * (F p).1)
  | [], s => by simp [runS, NS.m, F]
  | c :: p, s => by
    show (runS (nx s c) p).m = _
    rw [run_m p]
    unfold nx
    by_cases hc : c = 82
    · simp [hc, F, NS.m]; constructor <;> grind
    · simp [hc, F, NS.m]; constructor <;> grind
theorem run0_m (p : Tx) : (runS s0 p).m = F p := by
  rw [run_m]; simp [s0]
theorem good_run : ∀ (p : Tx) (s : NS), GoodS s → GoodS (runS s p)
  | [], s, h => h
  | c :: p, s, h => good_run p (nx s c) (h.nx c)
def Sm (x : Int × Int) : Prop := 0 ≤ x.1 ∧ x.1 < 2 ^ 100 ∧ 0 ≤ x.2 ∧ x.2 < 2 ^ 100
theorem less_ok {k : Nat} (hk : 1 ≤ k) (a b : Int × Int) (h : Sm a) (h' : Sm b) : Phi tb fs k 20 [.d (tp a), .d (tp b)] [] = .ret (.d (.bl (decide (a.1 * b.2 < b.1 * a.2)))) [] := by
  obtain ⟨k, rfl, hj⟩ := lvl hk
  obtain ⟨x1, x2, x3, x4⟩ := h
  obtain ⟨y1, y2, y3, y4⟩ := h'
  have m1 := mul_lt (a := a.1) (b := b.2) 100 100 (by decide) (by decide) (by omega) (by omega) (by decide)
  have m2 := mul_lt (a := b.1) (b := a.2) 100 100 (by decide) (by decide) (by omega) (by omega) (by decide)
  rw [P__law_less]
  simp [f__law_less, tp, m1, m2]
theorem cross {s : NS} (h : GoodS s) (p : Tx) : (runS s p).m.1 * s.m.2 - s.m.1 * (runS s p).m.2 = (F p).1 - (F p).2 := by
  rw [run_m]
  have := h.det
  simp only [NS.m]
  grind
theorem sm_of {s : NS} (h : GoodS s) (p : Tx) (ho : Sm (runS s p).m) : Sm s.m ∧ Sm s.lo ∧ Sm s.hi := by
  rw [run_m] at ho
  obtain ⟨o1, o2, o3, o4⟩ := ho
  simp only at o1 o2 o3 o4
  have f := F_pos p
  have l1 := Int.mul_nonneg h.l1 (show 0 ≤ (F p).2 - 1 by omega)
  have l2 := Int.mul_nonneg h.l2 (show 0 ≤ (F p).2 - 1 by omega)
  have l3 := Int.mul_nonneg h.h1 (show 0 ≤ (F p).1 - 1 by omega)
  have l4 := Int.mul_nonneg h.h2 (show 0 ≤ (F p).1 - 1 by omega)
  rw [Int.mul_sub] at l1 l2 l3 l4
  have a1 := h.l1
  have a2 := h.l2
  have a3 := h.h1
  have a4 := h.h2
  refine ⟨⟨?_, ?_, ?_, ?_⟩, ⟨?_, ?_, ?_, ?_⟩, ⟨?_, ?_, ?_, ?_⟩⟩ <;> (try simp only [NS.m]) <;> omega
theorem due_loop {k : Nat} (hk : 1 ≤ k) (d0 d1 : D) (own : Int × Int) (p : Tx) : ∀ (s : NS) (o : Option D), GoodS s → (runS s p).m = own → Sm own → ∃ o' : Option D,
    forGo (setOne 5) (evB tb (Phi tb fs k) 0 b__law_due_0) [] 0 ((s :: scan s p).map fun n => .d (tp n.m)) ⟨[some (.d d0), some (.d d1), some (.d (tp own)), some (.d (tp s.lo)), some (.d (tp s.hi)), sd o, none], []⟩
      = .ok .next ⟨[some (.d d0), some (.d d1), some (.d (tp own)), some (.d (tp (runS s p).lo)), some (.d (tp (runS s p).hi)), sd o', none], []⟩ := by
  induction p with
  | nil =>
    intro s o h ho hs
    have ho : s.m = own := ho
    subst ho
    refine ⟨some (tp s.m), ?_⟩
    have a1 := less_ok hk s.m s.m hs hs
    have hn : ¬ s.m.1 * s.m.2 < s.m.1 * s.m.2 := by omega
    simp at a1
    simp [scan, b__law_due_0, a1, runS]
  | cons c p ih =>
    intro s o h ho hs
    obtain ⟨o', e⟩ := ih (nx s c) (some (tp s.m)) (h.nx c) ho hs
    refine ⟨o', ?_⟩
    obtain ⟨k1, k2, k3⟩ := sm_of h (c :: p) (by rw [ho]; exact hs)
    have hx := cross h (c :: p)
    rw [ho] at hx
    have hd := h.det
    have e1 : s.lo.1 * s.m.2 < s.m.1 * s.lo.2 := by simp only [NS.m]; grind
    have e2 : s.m.1 * s.hi.2 < s.hi.1 * s.m.2 := by simp only [NS.m]; grind
    have a1 := less_ok hk s.m own k1 hs
    have a2 := less_ok hk s.lo s.m k2 k1
    have a3 := less_ok hk own s.m hs k1
    have a4 := less_ok hk s.m s.hi k1 k3
    have f := F_pos p
    rw [show (s :: scan s (c :: p)).map (fun n => Sl.d (tp n.m)) = .d (tp s.m) :: (nx s c :: scan (nx s c) p).map (fun n => Sl.d (tp n.m)) from rfl]
    rw [show runS s (c :: p) = runS (nx s c) p from rfl]
    generalize (nx s c :: scan (nx s c) p).map (fun n => Sl.d (tp n.m)) = tl at e ⊢
    by_cases hc : c = 82
    · subst hc
      have q1 : (nx s 82).lo = s.m := rfl
      have q2 : (nx s 82).hi = s.hi := rfl
      rw [q1, q2] at e
      have e3 : s.m.1 * own.2 < own.1 * s.m.2 := by simp [F] at hx; omega
      have e4 : ¬ own.1 * s.m.2 < s.m.1 * own.2 := by omega
      simp [e1, e3, e4] at a1 a2 a3
      simp [b__law_due_0] at e
      simp [b__law_due_0, a1, a2, a3, e]
    · have q1 : (nx s c).lo = s.lo := by unfold nx; rw [if_neg hc]
      have q2 : (nx s c).hi = s.m := by unfold nx; rw [if_neg hc]
      rw [q1, q2] at e
      have e3 : ¬ s.m.1 * own.2 < own.1 * s.m.2 := by simp [F, hc] at hx; omega
      have e4 : own.1 * s.m.2 < s.m.1 * own.2 := by simp [F, hc] at hx; omega
      simp [e2, e3, e4] at a1 a3 a4
      simp [b__law_due_0] at e
      simp [b__law_due_0, a1, a3, a4, e]
theorem run_app (s : NS) (p : Tx) (c : Nat) : runS s (p ++ [c]) = nx (runS s p) c := by
  unfold runS; rw [List.foldl_append]; rfl
theorem run_q : ∀ (p : Tx) (s : NS), (runS s p).q = s.q ++ p
  | [], s => by simp [runS]
  | c :: p, s => by
    show (runS (nx s c) p).q = _
    rw [run_q p, nx_q]; simp
theorem strip82 (q : Tx) : rstripT (q ++ [82]) [82] = rstripT q [82] := by
  unfold rstripT
  have h := (List.takeWhile_sublist (fun c => ([82] : Tx).contains c) (l := q.reverse)).length_le
  simp at h ⊢
  rw [List.take_append_of_le_length (by omega)]
theorem strip76 (q : Tx) : rstripT (q ++ [76]) [82] = q ++ [76] := by
  unfold rstripT
  simp
  rw [List.take_of_length_le (by simp)]
theorem wt : ∀ (n : Nat) (p : Tx), p.length = n → RL p → (runS s0 p).w = (p.length : Int) - (rstripT p [82]).length + (if rstripT p [82] = [] then 0 else 1)
  | 0, p, h, _ => by
    have : p = [] := List.length_eq_zero_iff.mp h
    subst this
    simp [runS, s0, rstripT]
  | n + 1, p, h, hr => by
    obtain ⟨q, c, rfl⟩ : ∃ q c, p = q ++ [c] := ⟨p.dropLast, p.getLast (by intro h'; subst h'; simp at h), by rw [List.dropLast_concat_getLast]⟩
    have ih := wt n q (by simpa using h) (fun x hx => hr x (by simp [hx]))
    rw [run_app]
    rcases hr c (by simp) with rfl | rfl
    · rw [strip82]
      simp [nx, ih]; omega
    · rw [strip76]
      simp [nx]
theorem due_ok {k : Nat} (hk : 2 ≤ k) (p : Tx) (h : RL p) (hs : Sm (F p)) (hl : p.length ≤ 1000) : Phi tb fs k 14 [.d (.str p), .d (.lst ((s0 :: scan s0 p).map fun n => tp n.m))] [] = .ret (.new (rwL (runS s0 p))) [] := by
  obtain ⟨k, rfl, hj⟩ := lvl hk
  obtain ⟨ys, hy⟩ := scan_last p s0
  have e : (s0 :: scan s0 p).map (fun n => tp n.m) = ys.map (fun n => tp n.m) ++ [tp (runS s0 p).m] := by rw [hy]; simp
  have a1 : atI ((s0 :: scan s0 p).map fun n => tp n.m) (-1) = some (tp (runS s0 p).m) := by rw [e]; exact atI_last _ _
  obtain ⟨o', e2⟩ := due_loop (by omega : 1 ≤ k) (.str p) (.lst ((s0 :: scan s0 p).map fun n => tp n.m)) (runS s0 p).m p s0 none good0 rfl (by rw [run0_m]; exact hs)
  have hw := wt p.length p rfl h
  have hq : (runS s0 p).q = p := run_q p s0
  have t0 : tp s0.lo = .tup [.int 0, .int 1] := rfl
  have t1 : tp s0.hi = .tup [.int 1, .int 0] := rfl
  rw [t0, t1] at e2
  rw [show (s0 :: scan s0 p).map (fun n => Sl.d (tp n.m)) = ((s0 :: scan s0 p).map fun n => tp n.m).map .d by rw [List.map_map]; rfl] at e2
  generalize (s0 :: scan s0 p).map (fun n => tp n.m) = L at *
  rw [P__law_due]
  simp at e2
  by_cases hz : rstripT p [82] = []
  · simp [f__law_due, a1, Function.comp_def, e2, hz, rwL, hw, hq]
  · simp [f__law_due, a1, Function.comp_def, e2, hz, rwL, hw, hq]
end L07

set_option linter.all false
set_option maxRecDepth 100000
namespace L07
open GF
/-! the rows that are due, the refusals -/
theorem scan_range : ∀ (p : Tx) (s : NS), s :: scan s p = (List.range (p.length + 1)).map fun k => runS s (p.take k)
  | [], s => by simp [scan, runS]
  | c :: p, s => by
    rw [List.length_cons, List.range_succ_eq_map, List.map_cons, List.map_map, scan, scan_range p (nx s c)]
    rfl
/-- a comprehension over places whose items change nothing -/
theorem comp_map {E : S → R Sl} (i : Nat) (ρ : List (Option Sl)) (M : List D) (f : Nat → D) (ks : List Nat) : ∀ (acc : List D) (ρ0 : List (Option Sl)), acc.length + ks.length ≤ 1000 →
    (∀ k ∈ ks, E ⟨ρ.set i (some (.d (.int (k : Int)))), M⟩ = .ok (.d (f k)) ⟨ρ.set i (some (.d (.int (k : Int)))), M⟩) →
    compGo (fun s => .ok true s) E i ρ (ks.map fun (k : Nat) => D.int (k : Int)) acc ⟨ρ0, M⟩ = .ok (acc ++ ks.map f) ⟨ρ, M⟩ := by
  induction ks with
  | nil => intro acc ρ0 _ _; simp
  | cons k ks ih =>
    intro acc ρ0 hl h
    have hl2 : acc.length < LN := by simp [LN] at hl ⊢; omega
    have e := h k (by simp)
    have e2 := ih (acc ++ [f k]) (ρ.set i (some (.d (.int (k : Int))))) (by simp at hl ⊢; omega) (fun j hj => h j (by simp [hj]))
    simp [e, hl2, e2]
theorem F_bd : ∀ p : Tx, (F p).1 ≤ 2 ^ p.length ∧ (F p).2 ≤ 2 ^ p.length ∧ (F p).1 + (F p).2 ≤ 2 ^ (p.length + 1)
  | [] => by decide
  | c :: p => by
    have h := F_bd p
    have h0 := F_pos p
    have e1 : (2 : Int) ^ (c :: p).length = 2 ^ p.length * 2 := by rw [List.length_cons, Int.pow_succ]
    have e2 : (2 : Int) ^ (p.length + 1) = 2 ^ p.length * 2 := by rw [Int.pow_succ]
    have e3 : (2 : Int) ^ ((c :: p).length + 1) = 2 ^ p.length * 2 * 2 := by rw [Int.pow_succ, e1]
    rw [e1, e3]
    rw [e2] at h
    generalize (2 : Int) ^ p.length = P at *
    simp only [F]
    split <;> simp <;> omega
theorem sm_F {p : Tx} (h : p.length ≤ 60) : Sm (F p) := by
  have h1 := F_bd p
  have h2 := F_pos p
  have h3 : (2 : Int) ^ p.length ≤ 2 ^ 60 := by
    have := Nat.pow_le_pow_right (show 0 < 2 by decide) h
    exact_mod_cast this
  have h4 : (2 : Int) ^ 60 < 2 ^ 100 := by decide
  exact ⟨by omega, by omega, by omega, by omega⟩
theorem range_int (n : Nat) : rangeL 0 ((n : Int) + 1) = (List.range (n + 1)).map fun (k : Nat) => D.int (k : Int) := by
  rw [rangeL_eq, List.map_map]
  have : ((n : Int) + 1 - 0).toNat = n + 1 := by omega
  rw [this]
  apply List.map_congr_left
  intro k _
  simp
theorem wayDue_ok {k : Nat} (hk : 3 ≤ k) (p : Tx) (h : RL p) (hl : p.length ≤ 60) : Phi tb fs k 6 [.d (.str p)] [] = .ret (.new ((s0 :: scan s0 p).map rwD)) [] := by
  obtain ⟨k, rfl, hj⟩ := lvl hk
  have hs : smI ((p.length : Int) + 1) = true := smI_ok (by omega)
  let L : List D := (List.range (p.length + 1)).map fun j => tp (F (p.take j))
  have c1 := comp_map (E := evE tb (Phi tb fs k) c__law_way_due_0) 2 [some (.d (.str p)), none, none] [] (fun j => tp (F (p.take j))) (List.range (p.length + 1)) [] [some (.d (.str p)), none, none] (by simp; omega) (by
    intro j _
    have a1 := mediant_ok (by omega : 1 ≤ k) (p.take j)
    have a2 := cut_pre p (j : Int) (by omega)
    simp at a2
    simp [c__law_way_due_0, a2, a1, tp])
  have c2 := comp_map (E := evE tb (Phi tb fs k) c__law_way_due_1) 2 [some (.d (.str p)), some (.d (.lst L)), none] [] (fun j => rwD (runS s0 (p.take j))) (List.range (p.length + 1)) [] [some (.d (.str p)), some (.d (.lst L)), none] (by simp; omega) (by
    intro j hj'
    have hj2 : j ≤ p.length := by have := List.mem_range.mp hj'; omega
    have a2 := cut_pre p (j : Int) (by omega)
    have a3 := cut_pre L ((j : Int) + 1) (by omega)
    have e3 : L.take (j + 1) = (s0 :: scan s0 (p.take j)).map fun n => tp n.m := by
      rw [scan_range, List.map_map]
      show ((List.range (p.length + 1)).map fun j => tp (F (p.take j))).take (j + 1) = _
      rw [← List.map_take, List.take_range, List.length_take, Nat.min_eq_left (by omega : j ≤ p.length), Nat.min_eq_left (by omega : j + 1 ≤ p.length + 1)]
      apply List.map_congr_left
      intro x hx
      have hx := List.mem_range.mp hx
      simp only [Function.comp]
      rw [run0_m, List.take_take, Nat.min_eq_left (by omega)]
    have a1 := due_ok (by omega : 2 ≤ k) (p.take j) (h.take j) (sm_F (by simp; omega)) (by simp; omega)
    rw [← e3] at a1
    have t1 : ((j : Int) + 1).toNat = j + 1 := by omega
    rw [t1] at a3
    simp at a2
    simp [c__law_way_due_1, a2, a3, a1, rwD, rwL])
  have e4 : (s0 :: scan s0 p).map rwD = (List.range (p.length + 1)).map fun j => rwD (runS s0 (p.take j)) := by
    rw [scan_range, List.map_map]; rfl
  rw [e4]
  rw [P__law_way_due]
  simp only [List.nil_append] at c1 c2
  have c1' : compGo (fun s => .ok true s) (evE tb (Phi tb fs k) c__law_way_due_0) 2 [some (.d (.str p)), none, none] (rangeL 0 ((p.length : Int) + 1)) [] ⟨[some (.d (.str p)), none, none], []⟩ = .ok L ⟨[some (.d (.str p)), none, none], []⟩ := by
    rw [range_int]; exact c1
  have c2' : compGo (fun s => .ok true s) (evE tb (Phi tb fs k) c__law_way_due_1) 2 [some (.d (.str p)), some (.d (.lst L)), none] (rangeL 0 ((p.length : Int) + 1)) [] ⟨[some (.d (.str p)), some (.d (.lst L)), none], []⟩ = .ok ((List.range (p.length + 1)).map fun j => rwD (runS s0 (p.take j))) ⟨[some (.d (.str p)), some (.d (.lst L)), none], []⟩ := by
    rw [range_int]; exact c2
  simp [f__law_way_due, hs, c1', c2']
theorem refused_deep {k : Nat} (hk : 5 ≤ k) (kind : Int) (p : Tx) (h : RL p) (hl : 60 < p.length) : Phi tb fs k 11 [.d (.int kind), .d (.str p)] [] = .ret (.d (.tup [.str [100, 101, 101, 112], .int 60, .bl true, .bl false])) [] := by
  obtain ⟨k, rfl, hj⟩ := lvl hk
  have a1 := way_deep (by omega : 3 ≤ k) p h hl
  have a2 := nodeAt_deep (by omega : 4 ≤ k) p h hl
  have a3 := whole_int (by omega : 1 ≤ k) 60
  rw [P__law_refused]
  by_cases hz : kind = 0
  · subst hz; simp [f__law_refused, a1, a2, a3]
  · simp [f__law_refused, hz, a1, a2, a3]
theorem refused_not {k : Nat} (hk : 5 ≤ k) (kind : Int) (p : Tx) (h : ¬ RL p) (hl : p.length ≤ 100000) : Phi tb fs k 11 [.d (.int kind), .d (.str p)] [] = .ret (.d (.tup [.str [112, 97, 116, 104], .str p, .bl true, .bl false])) [] := by
  obtain ⟨k, rfl, hj⟩ := lvl hk
  have a1 := way_not (by omega : 3 ≤ k) p h hl
  have a2 := nodeAt_not (by omega : 4 ≤ k) p h hl
  rw [P__law_refused]
  by_cases hz : kind = 0
  · subst hz; simp [f__law_refused, a1, a2]
  · simp [f__law_refused, hz, a1, a2]
end L07

set_option linter.all false
set_option maxRecDepth 100000
namespace L07
open GF
/-! the law -/
def Rw (p : Tx) : List D := (s0 :: scan s0 p).map rwD
theorem rwl_ok (s : NS) : (rwL s).all (okEq 59) = true := by simp [rwL, tp]
theorem rwd_ok (n : Nat) (s : NS) : okEq (n + 2) (rwD s) = true := by simp [rwD, tp]
theorem rw_ok (p : Tx) : (Rw p).all (okEq 59) = true := by
  unfold Rw
  rw [List.all_eq_true]
  intro x hx
  obtain ⟨s, _, rfl⟩ := List.mem_map.mp hx
  exact rwd_ok 57 s
theorem rw_last (p : Tx) : atI (Rw p) (-1) = some (.lst (rwL (runS s0 p))) := by
  obtain ⟨ys, hy⟩ := scan_last p s0
  unfold Rw
  rw [hy, List.map_append]
  exact atI_last _ _
theorem rw_at (p : Tx) (n : Nat) : atI (Rw p) ((min n p.length : Nat) : Int) = some (.lst (rwL (runS s0 (p.take n)))) := by
  rw [atI_nat]
  unfold Rw
  rw [scan_range, List.map_map, List.getElem?_map, List.getElem?_range (by omega)]
  simp only [Option.map_some, Function.comp]
  rw [show p.take (min n p.length) = p.take n by
    by_cases h : n ≤ p.length
    · rw [Nat.min_eq_left h]
    · rw [Nat.min_eq_right (by omega), List.take_of_length_le (Nat.le_refl _), List.take_of_length_le (by omega)]]
  rfl
theorem nodes_comp {k : Nat} (hk : 3 ≤ k) (v0 v1 v2 v3 v4 v5 v6 v7 v8 v9 v10 v11 v13 : Option Sl) (M : List D) (ss : List NS) : ∀ (acc : List D) (ρ0 : List (Option Sl)), acc.length + ss.length ≤ 1000 →
    compGo (fun s => .ok true s) (evE tb (Phi tb fs k) c_law_0) 12 [v0, v1, v2, v3, v4, v5, v6, v7, v8, v9, v10, v11, none, v13] (ss.map ndD) acc ⟨ρ0, M⟩ = .ok (acc ++ ss.map rwD) ⟨[v0, v1, v2, v3, v4, v5, v6, v7, v8, v9, v10, v11, none, v13], M⟩ := by
  induction ss with
  | nil => intro acc ρ0 _; simp
  | cons s ss ih =>
    intro acc ρ0 hl
    have hl2 : acc.length < LN := by simp [LN] at hl ⊢; omega
    have a1 := lnode_ok hk s
    have e2 := ih (acc ++ [rwD s]) [v0, v1, v2, v3, v4, v5, v6, v7, v8, v9, v10, v11, some (.d (ndD s)), v13] (by simp at hl ⊢; omega)
    have e3 : D.lst (rwL s) = rwD s := rfl
    simp [c_law_0, a1, hl2, e3] at e2 ⊢
    exact e2
theorem paths_loop {k : Nat} (hk : 4 ≤ k) (d0 sg odd long c0 : D) (one two : Tx) (h1 : RL one) (h2 : RL two) (l1 : one.length ≤ 60) (l2 : two.length ≤ 60) (place : Nat) (ks : List Int) : ∀ (o9 o10 o11 : Option D), (∀ x ∈ ks, x = 0 ∨ x = 1) → ∃ o9' o10' o11' : Option D,
    forGo (setOne 9) (evB tb (Phi tb fs k) 0 b_law_1) [] 1 (ks.map fun x => .d (.int x)) ⟨[some (.d d0), some (.ref 0), some (.d (.str one)), some (.d (.str two)), some (.d sg), some (.d (.int place)), some (.d odd), some (.d long), some (.d (.lst [.lst (Rw one), .lst (Rw two)])), sd o9, sd o10, sd o11, none, none], [c0]⟩
      = .ok .next ⟨[some (.d d0), some (.ref 0), some (.d (.str one)), some (.d (.str two)), some (.d sg), some (.d (.int place)), some (.d odd), some (.d long), some (.d (.lst [.lst (Rw one), .lst (Rw two)])), sd o9', sd o10', sd o11', none, none], [c0]⟩ := by
  induction ks with
  | nil => intro o9 o10 o11 _; exact ⟨o9, o10, o11, rfl⟩
  | cons x ks ih =>
    intro o9 o10 o11 h
    obtain ⟨p, hr, hl, e1, e2⟩ : ∃ p, RL p ∧ p.length ≤ 60 ∧ atI [D.str one, D.str two] x = some (.str p) ∧ atI [D.lst (Rw one), D.lst (Rw two)] x = some (.lst (Rw p)) := by
      rcases h x (by simp) with rfl | rfl
      · exact ⟨one, h1, l1, by simp, by simp⟩
      · exact ⟨two, h2, l2, by simp, by simp⟩
    obtain ⟨o9', o10', o11', e⟩ := ih (some (.int x)) (some (.str p)) (some (.lst (Rw p))) (fun y hy => h y (by simp [hy]))
    refine ⟨o9', o10', o11', ?_⟩
    have a1 := wayTold_ok hk p hr hl
    have a2 := nodeAt_ok hk p hr hl
    have a3 := lnode_ok (by omega : 3 ≤ k)
    have a4 := rw_last p
    have a5 := nodeAt_ok hk (p.take place) (hr.take _) (by simp; omega)
    have a6 := rw_at p place
    have a7 := way_ok (by omega : 3 ≤ k) p hr hl
    have a8 := nodeAt_ok hk [] RL.nil (by simp)
    have a9 := rw_at p 0
    have b1 := cut_pre p (place : Int) (by omega)
    have b2 : (if (p.length : Int) < (place : Int) then (p.length : Int) else (place : Int)) = ((min place p.length : Nat) : Int) := by split <;> omega
    have sl : (s0 :: scan s0 p).length ≤ 1000 := by rw [scan_range]; simp; omega
    have b3 := fun ρ0 => nodes_comp (by omega : 3 ≤ k) (some (.d d0)) (some (.ref 0)) (some (.d (.str one))) (some (.d (.str two))) (some (.d sg)) (some (.d (.int place))) (some (.d odd)) (some (.d long)) (some (.d (.lst [.lst (Rw one), .lst (Rw two)]))) (some (.d (.int x))) (some (.d (.str p))) (some (.d (.lst (Rw p)))) none [c0] (s0 :: scan s0 p) [] ρ0 (by rw [List.length_nil, Nat.zero_add]; exact sl)
    have b4 : ((s0 :: scan s0 p).map rwD) = Rw p := rfl
    have b5 := rwl_ok
    have b6 := rw_ok p
    rw [show (s0 :: scan s0 p).map rwD = Rw p from rfl] at a1
    rw [show ndD s0 :: (scan s0 p).map ndD = (s0 :: scan s0 p).map ndD from rfl] at a7
    simp only [List.nil_append, b4] at b3
    generalize (s0 :: scan s0 p).map ndD = nl at *
    simp at a4 a6 a9 b1 b2 b3
    simp [b_law_1, e1, e2, a1, a2, a3, a4, a5, a6, a7, a8, a9, b1, b2, b3, b5, b6, sl, patF_mk tb_p0, patF_mk tb_p1, permute, cmpNeSelf] at e ⊢
    exact e
theorem told_loop {k : Nat} (hk : 5 ≤ k) (d0 d2 d3 d5 d8 c0 : D) (sg : Nat) (odd long : Tx) (h1 : ¬ RL odd) (h2 : odd.length ≤ 1000) (h3 : RL long) (h4 : long.length = 61) (h5 : ¬ RL (sg :: long)) (o9 o10 o11 : Option D) (ks : List Int) : ∀ (o13 : Option D), ∃ o13' : Option D,
    forGo (setOne 13) (evB tb (Phi tb fs k) 0 b_law_2) [] 1 (ks.map fun x => .d (.int x)) ⟨[some (.d d0), some (.ref 0), some (.d d2), some (.d d3), some (.d (.str [sg])), some (.d d5), some (.d (.str odd)), some (.d (.str long)), some (.d d8), sd o9, sd o10, sd o11, none, sd o13], [c0]⟩
      = .ok .next ⟨[some (.d d0), some (.ref 0), some (.d d2), some (.d d3), some (.d (.str [sg])), some (.d d5), some (.d (.str odd)), some (.d (.str long)), some (.d d8), sd o9, sd o10, sd o11, none, sd o13'], [c0]⟩ := by
  induction ks with
  | nil => intro o13; exact ⟨o13, rfl⟩
  | cons x ks ih =>
    intro o13
    obtain ⟨o13', e⟩ := ih (some (.int x))
    refine ⟨o13', ?_⟩
    have a1 := refused_not hk x odd h1 (by omega)
    have a2 := refused_deep hk x long h3 (by omega)
    have a3 := refused_not hk x (sg :: long) h5 (by simp; omega)
    have n1 : 1 + long.length ≤ LN := by simp [LN]; omega
    simp [b_law_2, a1, a2, a3, n1, cmpNeSelf] at e ⊢
    exact e
theorem law_ok {k : Nat} (hk : 6 ≤ k) (ns : List Int) : ∃ M, Phi tb fs k 0 [.d (.scr ns)] [] = .ret (.d (.bl true)) M := by
  obtain ⟨k, rfl, hj⟩ := lvl hk
  obtain ⟨v0, e0⟩ := pool_ok (by omega : 2 ≤ k) ns
  obtain ⟨one, v1, e1, r1, l1⟩ := path_ok (by omega : 2 ≤ k) v0 60 (by decide)
  have l1 : (one.length : Int) ≤ 60 := l1
  obtain ⟨two, v2, e2, r2, l2⟩ := second_gen (by omega : 3 ≤ k) v1 one r1 (by omega) 30 (by decide)
  have l2 : (two.length : Int) ≤ 60 := by omega
  obtain ⟨sg, v3, e3, s1, s2⟩ := sign_ok (by omega : 2 ≤ k) v2
  obtain ⟨pl_, v4, e4, p1, p2⟩ := take_ok (by omega : 1 ≤ k) v3 (one.length + 1 : Int) (by omega) (by omega)
  obtain ⟨place, rfl⟩ := Int.eq_ofNat_of_zero_le p1
  have hbad : ∀ p q : Tx, ¬ RL (p ++ sg :: q) := fun p q h => by
    rcases h sg (by simp) with h | h
    · exact s1 h
    · exact s2 h
  have q1 := cut_pre one (place : Int) p1
  generalize hL : repT [82, 76, 76] 21 = tail at *
  have hLl : tail.length = 63 := by rw [← hL]; decide
  have hLr : RL tail := by rw [← hL]; exact RL.repT 21 (by intro c hc; simp at hc; omega)
  have q2 := cut_pre (one ++ (two ++ tail)) 61 (by decide)
  have n1 : min place one.length + 1 ≤ LN := by simp [LN]; omega
  have n2 : min place one.length + 1 + two.length ≤ LN := by simp [LN]; omega
  have n2' : min place one.length + (two.length + 1) ≤ LN := by simp [LN]; omega
  have n3 : one.length + two.length ≤ LN := by simp [LN]; omega
  have n4 : one.length + two.length + 63 ≤ LN := by simp [LN]; omega
  have n4' : one.length + (two.length + 63) ≤ LN := by simp [LN]; omega
  generalize hlong : (one ++ (two ++ tail)).take 61 = long at *
  have ll : long.length = 61 := by rw [← hlong]; simp; omega
  have lr : RL long := by rw [← hlong]; exact (r1.app (r2.app hLr)).take _
  have d1 := wayDue_ok (by omega : 3 ≤ k) one r1 (by omega)
  have d2 := wayDue_ok (by omega : 3 ≤ k) two r2 (by omega)
  rw [show (s0 :: scan s0 one).map rwD = Rw one from rfl] at d1
  rw [show (s0 :: scan s0 two).map rwD = Rw two from rfl] at d2
  obtain ⟨o9, o10, o11, L1⟩ := paths_loop (by omega : 4 ≤ k) (.scr ns) (.str [sg]) (.str (one.take place ++ (sg :: two))) (.str long) (.lst (v4.map .int)) one two r1 r2 (by omega) (by omega) place [0, 1, 0] none none none (by
    intro x hx
    simp at hx
    omega)
  obtain ⟨o13, L2⟩ := told_loop hj (.scr ns) (.str one) (.str two) (.int place) (.lst [.lst (Rw one), .lst (Rw two)]) (.lst (v4.map .int)) sg (one.take place ++ (sg :: two)) long (hbad _ _) (by simp; omega) lr ll (hbad [] long) o9 o10 o11 [0, 1] none
  have hs2 : smI 2 = true := smI_ok (by decide)
  have hr2 : rangeL 0 2 = [D.int 0, D.int 1] := by rw [rangeL_eq]; rfl
  have c1 := cut_suf long 1 (by decide)
  have w1 := wayTold_ok (by omega : 4 ≤ k) (long.drop 1) (lr.drop 1) (by simp; omega)
  have w2 := wayDue_ok (by omega : 3 ≤ k) (long.drop 1) (lr.drop 1) (by simp; omega)
  rw [show (s0 :: scan s0 (long.drop 1)).map rwD = Rw (long.drop 1) from rfl] at w1 w2
  have w3 : cmpS .eq (.d (.lst (Rw (long.drop 1)))) (.d (.lst (Rw (long.drop 1)))) = some true := cmpEqSelf _ (by rw [ok_lst]; exact rw_ok _)
  have n5 : 63 ≤ LN := by simp [LN]
  rw [P_law]
  simp at q1 q2 L1 L2 c1 w1 w2 w3
  simp [f_law, e0, e1, e2, e3, e4, q1, q2, hL, hLl, n1, n2, n2', n3, n4, n4', n5, hlong, d1, d2, L1, hs2, hr2, L2, c1, w1, w2, w3]
end L07

set_option Elab.async false
set_option linter.all false
set_option maxRecDepth 100000
set_option autoImplicit false
set_option maxHeartbeats 0
namespace L07
open PySem PySem.Spec PyProof.Rows L2 GF
/-! written by gen.py from the law's text: the tables, the bodies, the head -/
def top (i : Nat) : Stmt := PySem.Challenge.pw_grownfractions_k07_parents_and_weights.main.body.getD i (.Pass ⟨0, 0, 0, 0⟩)

def fxs : List Fx := [{ gname := some "law", ps := ["script"], quiet := false, pats := [], own := [], stat := [] }, { gname := some "_law_pool", ps := ["script"], quiet := false, pats := [], own := [], stat := [] }, { gname := some "_law_path", ps := ["pool", "most"], quiet := false, pats := [], own := [], stat := [] }, { gname := some "_law_second", ps := ["pool", "path", "most"], quiet := false, pats := [], own := [], stat := [] }, { gname := some "_law_sign", ps := ["pool"], quiet := false, pats := [], own := [], stat := [] }, { gname := some "_law_take", ps := ["pool", "many"], quiet := false, pats := [], own := [], stat := [] }, { gname := some "_law_way_due", ps := ["path"], quiet := false, pats := [], own := [], stat := [] }, { gname := some "_law_node", ps := ["told"], quiet := false, pats := [], own := [], stat := [] }, { gname := some "node_at", ps := ["path"], quiet := false, pats := [0], own := [], stat := [] }, { gname := some "_law_way_told", ps := ["path"], quiet := false, pats := [], own := [], stat := [] }, { gname := some "way", ps := ["path"], quiet := false, pats := [1], own := [], stat := [] }, { gname := some "_law_refused", ps := ["kind", "path"], quiet := false, pats := [], own := [], stat := [] }, { gname := some "_law_mixed", ps := ["seed", "many"], quiet := false, pats := [], own := [], stat := [] }, { gname := some "_law_mediant", ps := ["path"], quiet := false, pats := [], own := [], stat := [] }, { gname := some "_law_due", ps := ["path", "fracs"], quiet := false, pats := [], own := [], stat := [] }, { gname := some "_law_whole", ps := ["told"], quiet := true, pats := [], own := [], stat := [] }, { gname := some "_law_frac", ps := ["told"], quiet := false, pats := [], own := [], stat := [] }, { gname := some "check_path", ps := ["path"], quiet := false, pats := [], own := [], stat := [] }, { gname := some "_root", ps := [], quiet := false, pats := [2], own := [], stat := [] }, { gname := some "_child", ps := ["node", "letter"], quiet := false, pats := [], own := [], stat := [] }, { gname := some "_law_less", ps := ["one", "two"], quiet := false, pats := [], own := [], stat := [] }, { gname := none, ps := ["self", "path", "frac", "low_parent", "high_parent", "weight"], quiet := false, pats := [3], own := [(7, "__init__")], stat := [] }, { gname := none, ps := ["self", "top", "bottom"], quiet := false, pats := [4, 5], own := [(6, "__init__")], stat := [] }]
def ti : Ti := { tb := tb, fns := fxs, cnames := ["DIGITS", "MOST_DIGITS", "MOST_LETTERS"], clsn := ["GrownError", "BadText", "NoNumber", "NoValue", "BadPath", "TooDeep", "Frac", "Node"], free := ["bool", "int", "isinstance", "len", "list", "min", "range", "str"], gcd := true, rais := [2, 4, 5] }
def clsBody (s : Stmt) : List Stmt := match s with
  | .ClassDef _ _ _ b _ _ _ _ _ _ _ => b
  | _ => []
def d_law : He.DefD := ⟨("law", none), "law", "law", defArgs (top 40), defBody (top 40), defScope (top 40), [], []⟩
def d__law_pool : He.DefD := ⟨("_law_pool", none), "_law_pool", "_law_pool", defArgs (top 26), defBody (top 26), defScope (top 26), [], []⟩
def d__law_path : He.DefD := ⟨("_law_path", none), "_law_path", "_law_path", defArgs (top 30), defBody (top 30), defScope (top 30), [], []⟩
def d__law_second : He.DefD := ⟨("_law_second", none), "_law_second", "_law_second", defArgs (top 31), defBody (top 31), defScope (top 31), [], []⟩
def d__law_sign : He.DefD := ⟨("_law_sign", none), "_law_sign", "_law_sign", defArgs (top 32), defBody (top 32), defScope (top 32), [], []⟩
def d__law_take : He.DefD := ⟨("_law_take", none), "_law_take", "_law_take", defArgs (top 27), defBody (top 27), defScope (top 27), [], []⟩
def d__law_way_due : He.DefD := ⟨("_law_way_due", none), "_law_way_due", "_law_way_due", defArgs (top 37), defBody (top 37), defScope (top 37), [], []⟩
def d__law_node : He.DefD := ⟨("_law_node", none), "_law_node", "_law_node", defArgs (top 35), defBody (top 35), defScope (top 35), [], []⟩
def d_node_at : He.DefD := ⟨("node_at", none), "node_at", "node_at", defArgs (top 23), defBody (top 23), defScope (top 23), [], []⟩
def d__law_way_told : He.DefD := ⟨("_law_way_told", none), "_law_way_told", "_law_way_told", defArgs (top 38), defBody (top 38), defScope (top 38), [], []⟩
def d_way : He.DefD := ⟨("way", none), "way", "way", defArgs (top 22), defBody (top 22), defScope (top 22), [], []⟩
def d__law_refused : He.DefD := ⟨("_law_refused", none), "_law_refused", "_law_refused", defArgs (top 39), defBody (top 39), defScope (top 39), [], []⟩
def d__law_mixed : He.DefD := ⟨("_law_mixed", none), "_law_mixed", "_law_mixed", defArgs (top 25), defBody (top 25), defScope (top 25), [], []⟩
def d__law_mediant : He.DefD := ⟨("_law_mediant", none), "_law_mediant", "_law_mediant", defArgs (top 33), defBody (top 33), defScope (top 33), [], []⟩
def d__law_due : He.DefD := ⟨("_law_due", none), "_law_due", "_law_due", defArgs (top 36), defBody (top 36), defScope (top 36), [], []⟩
def d__law_whole : He.DefD := ⟨("_law_whole", none), "_law_whole", "_law_whole", defArgs (top 28), defBody (top 28), defScope (top 28), [], []⟩
def d__law_frac : He.DefD := ⟨("_law_frac", none), "_law_frac", "_law_frac", defArgs (top 29), defBody (top 29), defScope (top 29), [], []⟩
def d_check_path : He.DefD := ⟨("check_path", none), "check_path", "check_path", defArgs (top 17), defBody (top 17), defScope (top 17), [], []⟩
def d__root : He.DefD := ⟨("_root", none), "_root", "_root", defArgs (top 20), defBody (top 20), defScope (top 20), [], []⟩
def d__child : He.DefD := ⟨("_child", none), "_child", "_child", defArgs (top 21), defBody (top 21), defScope (top 21), [], []⟩
def d__law_less : He.DefD := ⟨("_law_less", none), "_law_less", "_law_less", defArgs (top 34), defBody (top 34), defScope (top 34), [], []⟩
def s_Node___init__ : Stmt := (clsBody (top 19)).getD 0 (.Pass ⟨0, 0, 0, 0⟩)
def d_Node___init__ : He.DefD := ⟨("Node", some "__init__"), "__init__", "Node.__init__", defArgs s_Node___init__, defBody s_Node___init__, defScope s_Node___init__, [], []⟩
def s_Frac___init__ : Stmt := (clsBody (top 14)).getD 0 (.Pass ⟨0, 0, 0, 0⟩)
def d_Frac___init__ : He.DefD := ⟨("Frac", some "__init__"), "__init__", "Frac.__init__", defArgs s_Frac___init__, defBody s_Frac___init__, defScope s_Frac___init__, [.int 1], []⟩
def fns : List He.DefD := [d_law, d__law_pool, d__law_path, d__law_second, d__law_sign, d__law_take, d__law_way_due, d__law_node, d_node_at, d__law_way_told, d_way, d__law_refused, d__law_mixed, d__law_mediant, d__law_due, d__law_whole, d__law_frac, d_check_path, d__root, d__child, d__law_less, d_Node___init__, d_Frac___init__]
def m_BadText : Stmt := (clsBody (top 4)).getD 0 (.Pass ⟨0, 0, 0, 0⟩)
def i_BadText : InitD := ⟨1, "__init__", "BadText.__init__", defArgs m_BadText, defBody m_BadText, defScope m_BadText, "self", "given"⟩
def m_BadPath : Stmt := (clsBody (top 7)).getD 0 (.Pass ⟨0, 0, 0, 0⟩)
def i_BadPath : InitD := ⟨4, "__init__", "BadPath.__init__", defArgs m_BadPath, defBody m_BadPath, defScope m_BadPath, "self", "path"⟩
def m_TooDeep : Stmt := (clsBody (top 8)).getD 0 (.Pass ⟨0, 0, 0, 0⟩)
def i_TooDeep : InitD := ⟨5, "__init__", "TooDeep.__init__", defArgs m_TooDeep, defBody m_TooDeep, defScope m_TooDeep, "self", "most"⟩
def inits : List InitD := [i_BadText, i_BadPath, i_TooDeep]
def hd : Hd := { ti := ti, fs := fs, fns := fns, inits := inits, prog := PySem.Challenge.pw_grownfractions_k07_parents_and_weights }
theorem bindsI : ∀ d ∈ inits, BindsI d := by
  intro d h
  simp only [inits, List.mem_cons, List.mem_nil_iff, or_false] at h
  rcases h with rfl | rfl | rfl
  all_goals (intro kV doc pm ct an cda cc a b; rfl)
theorem F_law : FnF ti fxs[0] f_law d_law ["script", "pool", "one", "two", "sign", "place", "odd", "long", "dues", "k", "path", "due", "node", "kind"] := { nod := rfl, binds := .inl ⟨rfl, fun _ _ _ _ _ _ us hl => (match us, hl with | [_], _ => rfl)⟩, scope := ⟨rfl, rfl, rfl, by decide +kernel, rfl, by decide +kernel, by decide +kernel⟩, slots := rfl, ok := (by decide +kernel), okq := fun h => (by cases h), pats := trivial }
theorem F__law_pool : FnF ti fxs[1] f__law_pool d__law_pool ["script", "pool", "total", "cell"] := { nod := rfl, binds := .inl ⟨rfl, fun _ _ _ _ _ _ us hl => (match us, hl with | [_], _ => rfl)⟩, scope := ⟨rfl, rfl, rfl, by decide +kernel, rfl, by decide +kernel, by decide +kernel⟩, slots := rfl, ok := (by decide +kernel), okq := fun h => (by cases h), pats := trivial }
theorem F__law_path : FnF ti fxs[2] f__law_path d__law_path ["pool", "most", "kind", "many", "k", "turn", "path"] := { nod := rfl, binds := .inl ⟨rfl, fun _ _ _ _ _ _ us hl => (match us, hl with | [_, _], _ => rfl)⟩, scope := ⟨rfl, rfl, rfl, by decide +kernel, rfl, by decide +kernel, by decide +kernel⟩, slots := rfl, ok := (by decide +kernel), okq := fun h => (by cases h), pats := trivial }
theorem F__law_second : FnF ti fxs[3] f__law_second d__law_second ["pool", "path", "most", "kind", "place", "letter", "other"] := { nod := rfl, binds := .inl ⟨rfl, fun _ _ _ _ _ _ us hl => (match us, hl with | [_, _, _], _ => rfl)⟩, scope := ⟨rfl, rfl, rfl, by decide +kernel, rfl, by decide +kernel, by decide +kernel⟩, slots := rfl, ok := (by decide +kernel), okq := fun h => (by cases h), pats := trivial }
theorem F__law_sign : FnF ti fxs[4] f__law_sign d__law_sign ["pool", "signs"] := { nod := rfl, binds := .inl ⟨rfl, fun _ _ _ _ _ _ us hl => (match us, hl with | [_], _ => rfl)⟩, scope := ⟨rfl, rfl, rfl, by decide +kernel, rfl, by decide +kernel, by decide +kernel⟩, slots := rfl, ok := (by decide +kernel), okq := fun h => (by cases h), pats := trivial }
theorem F__law_take : FnF ti fxs[5] f__law_take d__law_take ["pool", "many", "number"] := { nod := rfl, binds := .inl ⟨rfl, fun _ _ _ _ _ _ us hl => (match us, hl with | [_, _], _ => rfl)⟩, scope := ⟨rfl, rfl, rfl, by decide +kernel, rfl, by decide +kernel, by decide +kernel⟩, slots := rfl, ok := (by decide +kernel), okq := fun h => (by cases h), pats := trivial }
theorem F__law_way_due : FnF ti fxs[6] f__law_way_due d__law_way_due ["path", "fracs", "k"] := { nod := rfl, binds := .inl ⟨rfl, fun _ _ _ _ _ _ us hl => (match us, hl with | [_], _ => rfl)⟩, scope := ⟨rfl, rfl, rfl, by decide +kernel, rfl, by decide +kernel, by decide +kernel⟩, slots := rfl, ok := (by decide +kernel), okq := fun h => (by cases h), pats := trivial }
theorem F__law_node : FnF ti fxs[7] f__law_node d__law_node ["told", "parents"] := { nod := rfl, binds := .inl ⟨rfl, fun _ _ _ _ _ _ us hl => (match us, hl with | [_], _ => rfl)⟩, scope := ⟨rfl, rfl, rfl, by decide +kernel, rfl, by decide +kernel, by decide +kernel⟩, slots := rfl, ok := (by decide +kernel), okq := fun h => (by cases h), pats := trivial }
theorem F_node_at : FnF ti fxs[8] f_node_at d_node_at ["path"] := { nod := rfl, binds := .inl ⟨rfl, fun _ _ _ _ _ _ us hl => (match us, hl with | [_], _ => rfl)⟩, scope := ⟨rfl, rfl, rfl, by decide +kernel, rfl, by decide +kernel, by decide +kernel⟩, slots := rfl, ok := (by decide +kernel), okq := fun h => (by cases h), pats := ⟨.inl ⟨rfl, rfl, fun _ _ _ _ _ _ us ws hl hw => match us, hl, ws, hw with | [], _, [_], _ => rfl⟩, trivial⟩ }
theorem F__law_way_told : FnF ti fxs[9] f__law_way_told d__law_way_told ["path", "told", "found", "node"] := { nod := rfl, binds := .inl ⟨rfl, fun _ _ _ _ _ _ us hl => (match us, hl with | [_], _ => rfl)⟩, scope := ⟨rfl, rfl, rfl, by decide +kernel, rfl, by decide +kernel, by decide +kernel⟩, slots := rfl, ok := (by decide +kernel), okq := fun h => (by cases h), pats := trivial }
theorem F_way : FnF ti fxs[10] f_way d_way ["path", "nodes", "letter"] := { nod := rfl, binds := .inl ⟨rfl, fun _ _ _ _ _ _ us hl => (match us, hl with | [_], _ => rfl)⟩, scope := ⟨rfl, rfl, rfl, by decide +kernel, rfl, by decide +kernel, by decide +kernel⟩, slots := rfl, ok := (by decide +kernel), okq := fun h => (by cases h), pats := ⟨.inl ⟨rfl, rfl, fun _ _ _ _ _ _ us ws hl hw => match us, hl, ws, hw with | [], _, [_], _ => rfl⟩, trivial⟩ }
theorem F__law_refused : FnF ti fxs[11] f__law_refused d__law_refused ["kind", "path", "e"] := { nod := rfl, binds := .inl ⟨rfl, fun _ _ _ _ _ _ us hl => (match us, hl with | [_, _], _ => rfl)⟩, scope := ⟨rfl, rfl, rfl, by decide +kernel, rfl, by decide +kernel, by decide +kernel⟩, slots := rfl, ok := (by decide +kernel), okq := fun h => (by cases h), pats := trivial }
theorem F__law_mixed : FnF ti fxs[12] f__law_mixed d__law_mixed ["seed", "many", "number", "k"] := { nod := rfl, binds := .inl ⟨rfl, fun _ _ _ _ _ _ us hl => (match us, hl with | [_, _], _ => rfl)⟩, scope := ⟨rfl, rfl, rfl, by decide +kernel, rfl, by decide +kernel, by decide +kernel⟩, slots := rfl, ok := (by decide +kernel), okq := fun h => (by cases h), pats := trivial }
theorem F__law_mediant : FnF ti fxs[13] f__law_mediant d__law_mediant ["path", "low", "high", "letter", "middle"] := { nod := rfl, binds := .inl ⟨rfl, fun _ _ _ _ _ _ us hl => (match us, hl with | [_], _ => rfl)⟩, scope := ⟨rfl, rfl, rfl, by decide +kernel, rfl, by decide +kernel, by decide +kernel⟩, slots := rfl, ok := (by decide +kernel), okq := fun h => (by cases h), pats := trivial }
theorem F__law_due : FnF ti fxs[14] f__law_due d__law_due ["path", "fracs", "own", "low", "high", "frac", "left"] := { nod := rfl, binds := .inl ⟨rfl, fun _ _ _ _ _ _ us hl => (match us, hl with | [_, _], _ => rfl)⟩, scope := ⟨rfl, rfl, rfl, by decide +kernel, rfl, by decide +kernel, by decide +kernel⟩, slots := rfl, ok := (by decide +kernel), okq := fun h => (by cases h), pats := trivial }
theorem F__law_whole : FnF ti fxs[15] f__law_whole d__law_whole ["told"] := { nod := rfl, binds := .inl ⟨rfl, fun _ _ _ _ _ _ us hl => (match us, hl with | [_], _ => rfl)⟩, scope := ⟨rfl, rfl, rfl, by decide +kernel, rfl, by decide +kernel, by decide +kernel⟩, slots := rfl, ok := (by decide +kernel), okq := fun _ => (by decide +kernel), pats := trivial }
theorem F__law_frac : FnF ti fxs[16] f__law_frac d__law_frac ["told"] := { nod := rfl, binds := .inl ⟨rfl, fun _ _ _ _ _ _ us hl => (match us, hl with | [_], _ => rfl)⟩, scope := ⟨rfl, rfl, rfl, by decide +kernel, rfl, by decide +kernel, by decide +kernel⟩, slots := rfl, ok := (by decide +kernel), okq := fun h => (by cases h), pats := trivial }
theorem F_check_path : FnF ti fxs[17] f_check_path d_check_path ["path", "letter"] := { nod := rfl, binds := .inl ⟨rfl, fun _ _ _ _ _ _ us hl => (match us, hl with | [_], _ => rfl)⟩, scope := ⟨rfl, rfl, rfl, by decide +kernel, rfl, by decide +kernel, by decide +kernel⟩, slots := rfl, ok := (by decide +kernel), okq := fun h => (by cases h), pats := trivial }
theorem F__root : FnF ti fxs[18] f__root d__root [] := { nod := rfl, binds := .inl ⟨rfl, fun _ _ _ _ _ _ us hl => (match us, hl with | [], _ => rfl)⟩, scope := ⟨rfl, rfl, rfl, by decide +kernel, rfl, by decide +kernel, by decide +kernel⟩, slots := rfl, ok := (by decide +kernel), okq := fun h => (by cases h), pats := ⟨.inl ⟨rfl, rfl, fun _ _ _ _ _ _ us ws hl hw => match us, hl, ws, hw with | [], _, [], _ => rfl⟩, trivial⟩ }
theorem F__child : FnF ti fxs[19] f__child d__child ["node", "letter", "low", "high", "weight", "frac"] := { nod := rfl, binds := .inl ⟨rfl, fun _ _ _ _ _ _ us hl => (match us, hl with | [_, _], _ => rfl)⟩, scope := ⟨rfl, rfl, rfl, by decide +kernel, rfl, by decide +kernel, by decide +kernel⟩, slots := rfl, ok := (by decide +kernel), okq := fun h => (by cases h), pats := trivial }
theorem F__law_less : FnF ti fxs[20] f__law_less d__law_less ["one", "two"] := { nod := rfl, binds := .inl ⟨rfl, fun _ _ _ _ _ _ us hl => (match us, hl with | [_, _], _ => rfl)⟩, scope := ⟨rfl, rfl, rfl, by decide +kernel, rfl, by decide +kernel, by decide +kernel⟩, slots := rfl, ok := (by decide +kernel), okq := fun h => (by cases h), pats := trivial }
theorem F_Node___init__ : FnF ti fxs[21] f_Node___init__ d_Node___init__ ["self", "path", "frac", "low_parent", "high_parent", "weight"] := { nod := rfl, binds := .inl ⟨rfl, fun _ _ _ _ _ _ us hl => (match us, hl with | [_, _, _, _, _, _], _ => rfl)⟩, scope := ⟨rfl, rfl, rfl, by decide +kernel, rfl, by decide +kernel, by decide +kernel⟩, slots := rfl, ok := (by decide +kernel), okq := fun h => (by cases h), pats := ⟨.inl ⟨rfl, rfl, fun _ _ _ _ _ _ us ws hl hw => match us, hl, ws, hw with | [_, _, _, _, _, _], _, [], _ => rfl⟩, trivial⟩ }
theorem F_Frac___init__ : FnF ti fxs[22] f_Frac___init__ d_Frac___init__ ["self", "top", "bottom", "divisor"] := { nod := rfl, binds := .inr ⟨(by intro h; cases h), fun _ _ _ _ _ _ _ us its hl hi => (match us, hl, its, hi with | [_, _, _], _, [_], _ => ⟨_, rfl, rfl⟩)⟩, scope := ⟨rfl, rfl, rfl, by decide +kernel, rfl, by decide +kernel, by decide +kernel⟩, slots := rfl, ok := (by decide +kernel), okq := fun h => (by cases h), pats := ⟨.inr ⟨rfl, (by intro h; cases h), fun _ _ _ _ _ _ _ us ws its hl hw hi => match us, hl, ws, hw, its, hi with | [_, _, _], _, [], _, [_], _ => ⟨_, rfl, rfl⟩⟩, ⟨.inr ⟨rfl, (by intro h; cases h), fun _ _ _ _ _ _ _ us ws its hl hw hi => match us, hl, ws, hw, its, hi with | [_, _], _, [], _, [_], _ => ⟨_, rfl, rfl⟩⟩, trivial⟩⟩ }
theorem allF : AllF ti ti.fns fs fns [["script", "pool", "one", "two", "sign", "place", "odd", "long", "dues", "k", "path", "due", "node", "kind"], ["script", "pool", "total", "cell"], ["pool", "most", "kind", "many", "k", "turn", "path"], ["pool", "path", "most", "kind", "place", "letter", "other"], ["pool", "signs"], ["pool", "many", "number"], ["path", "fracs", "k"], ["told", "parents"], ["path"], ["path", "told", "found", "node"], ["path", "nodes", "letter"], ["kind", "path", "e"], ["seed", "many", "number", "k"], ["path", "low", "high", "letter", "middle"], ["path", "fracs", "own", "low", "high", "frac", "left"], ["told"], ["told"], ["path", "letter"], [], ["node", "letter", "low", "high", "weight", "frac"], ["one", "two"], ["self", "path", "frac", "low_parent", "high_parent", "weight"], ["self", "top", "bottom", "divisor"]] := ⟨F_law, ⟨F__law_pool, ⟨F__law_path, ⟨F__law_second, ⟨F__law_sign, ⟨F__law_take, ⟨F__law_way_due, ⟨F__law_node, ⟨F_node_at, ⟨F__law_way_told, ⟨F_way, ⟨F__law_refused, ⟨F__law_mixed, ⟨F__law_mediant, ⟨F__law_due, ⟨F__law_whole, ⟨F__law_frac, ⟨F_check_path, ⟨F__root, ⟨F__child, ⟨F__law_less, ⟨F_Node___init__, ⟨F_Frac___init__, trivial⟩⟩⟩⟩⟩⟩⟩⟩⟩⟩⟩⟩⟩⟩⟩⟩⟩⟩⟩⟩⟩⟩⟩
def names0 : List PySem.Str := ["_wall", "GrownError", "BadText", "NoNumber", "NoValue", "BadPath", "TooDeep", "DIGITS", "MOST_DIGITS", "read_whole", "Frac", "MOST_LETTERS", "check_path", "Node", "_root", "_child", "way", "node_at", "_law_mixed", "_law_pool", "_law_take", "_law_whole", "_law_frac", "_law_path", "_law_second", "_law_sign", "_law_mediant", "_law_less", "_law_node", "_law_due"]
def names1 : List PySem.Str := ["_law_way_due", "_law_way_told", "_law_refused"]
def names : List PySem.Str := names0 ++ names1
abbrev R : PySem.W.OpenRow := PySem.W.OpenLaw.row PySem.Challenge.rw_grownfractions_k07_parents_and_weights
abbrev hk : PySem.W.Hook := hookH 5 hd
def ob (s : PySem.W.SharedT) : AlH := obsHG 5 hd (HandSHeadRun.getT s)
theorem ob_eq (s : PySem.W.SharedT) : ob s = hk.obs s.abs := obsHG_eq (HandSHeadRun.getT_eq s)
theorem run (w : World) : HandSHeadRun.RunEqI R (PySem.W.view R.prog [0, 40]) hk ob 20000 names w := by
  unfold HandSHeadRun.RunEqI
  kernel_rfl
/-- the law's end -/
theorem fin {k : Nat} (hr : Room (2 * k + 1 + 1) callerA) (hlaw : ∀ ns : List Int, ns.length ≤ 63 → ∃ M, Phi tb fs (k + 1) 0 [.d (.scr ns)] [] = .ret (.d (.bl true)) M) : PySem.Challenge.rw_grownfractions_k07_parents_and_weights.Holds := by
  w_on; o_law
  refine HandSHeadRun.head_imp (r := PySem.W.OpenLaw.row PySem.Challenge.rw_grownfractions_k07_parents_and_weights) (q := PySem.W.view (PySem.W.OpenLaw.row PySem.Challenge.rw_grownfractions_k07_parents_and_weights).prog [0, 40]) (H := hk) (ob := ob) (M := 20000) (loose := names) (d := HandSHeadRun.topDef (PySem.W.OpenLaw.row PySem.Challenge.rw_grownfractions_k07_parents_and_weights).prog 40) (kwd := []) ob_eq
     run (by kernel_rfl) (by kernel_rfl) (by kernel_rfl) (by rfl) (by first | assumption | decide +kernel) (by decide +kernel) ⟨rfl, rfl, rfl, rfl, rfl, by decide +kernel⟩ ?hw ?hc
  case hw => w_witness2
  case hc =>
    refine walk_cx (l := PySem.Challenge.rw_grownfractions_k07_parents_and_weights) (n := 63) (k := 2 * k + 1 + 1) (x := "script") rfl (by decide) (by kernel_rfl) hr ?F
    intro w mg fa h Y G hmg0
    obtain ⟨K, KX, c⟩ := Y
    have hmg : mg ("law" : PySem.Str) = some (.ref fa) := by
      have e : (HandSHeadRun.topDef (PySem.W.OpenLaw.row PySem.Challenge.rw_grownfractions_k07_parents_and_weights).prog 40).name = ("law" : PySem.Str) := by kernel_rfl
      rw [← e]
      exact hmg0
    exact ⟨K, KX, law_facts (hd := hd) (w := w) KX G c bindsI (by decide +kernel) allF (i := 0) (fx := fxs[0]) rfl rfl rfl hmg (fun d h => by cases h; rfl) hlaw⟩
end L07


open PySem PySem.W PyProof.Rows
set_option Elab.async false
theorem PySem.Challenge.cw_grownfractions_k07_parents_and_weights_holds : PySem.Challenge.rw_grownfractions_k07_parents_and_weights.Holds := by
  exact L07.fin (k := 5) (by first | decide | constructor <;> decide) (fun ns _ => by first | exact ⟨_, L07.law_ok (by decide) ns⟩ | exact L07.law_ok (by decide) ns)
